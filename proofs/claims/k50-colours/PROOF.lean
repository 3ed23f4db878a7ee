import PyProof.Rows.All
import Wide.All
import OpenK.AllK
import Wide.FinOn
import HandS.ForMost
import HandS.Exc
import HandS.Evl
import HandS.Slots
import HandS.Lambda
import HandS.EndBits
import PyProof.ReprRoads
import PyProof.StrLawsRepr
import HandS.Wide
import HandS.IsInst
import HandS.Style
import HandS.TupAny
import HandS.Star
import HandS.NoneIn
import HandS.SlotsOwn
import PyProof.InstNe
import HandS.Iter
import HandS.SetFor
import HandS.Strs
import HandS.Zip
import HandS.Conv
import KE.GoesMore
import HandS.Deep
import HandS.OwnEq
import HandS.DictComp
import PyProof.DictFindH
import HandS.DictEq
import HandS.DeepEq
import KE.SortData
import HandS.TupLen
import KE.KDictCopyH
import KE.KDictSum
import KE.KDictPairs
import HandS.SetBool
import HandS.TupSets
import HandS.SetKeys
import KE.KDictDisplayH
import KE.KEqDict
import KE.KRevSl
import HandS.Replace
import HandS.ReplaceLit
import HandS.ReplaceDef
import HandS.ReplaceList
import HandS.Text
import KE.KExcSuper
import KE.KSuper
import HandS.ExcInit
import HandS.Nested
import HandS.WordsExc
import KE.KExcIs
import HandS.ExcIs
import HandS.ExcField
import KE.KLam
import HandS.EndTab
import PyProof.IsInstance
import KE.KEqNest
import PySem.Challenge.RW_poleribbons_k50_colours_told
set_option Elab.async false
set_option linter.all false
set_option maxRecDepth 100000
set_option maxHeartbeats 8000000
namespace DL
open PySem PySem.Spec PyProof.Rows L2 Evl
/-- the bag's place, the classes' places -/
structure Bx where
  b : Addr
  L : Addr
  ct : Nat → Addr
  tb : List (Addr × Str) := []
  up : Option (Hp × Hp) := none
/-- nothing that moves stands there -/
def Bx.st (B : Bx) (p : Addr) : Prop := p ≠ B.b ∧ ∀ t ∈ B.tb, p ≠ t.1
/-- .. and it is younger than the anchor -/
def Bx.nb (B : Bx) (p : Addr) : Prop := B.st p ∧ ∀ u, B.up = some u → u.2 p = none
inductive D where
  | non | bl (b : Bool) | int (i : Int) | str (x : Str) | lst (xs : List D) | tup (xs : List D)
  | dic (ks : List (D × D)) | obj (c : Nat) (fs : List D) | bag | ktup (xs : List D)
def embK : Key → D
  | .inl i => .int i
  | .inr x => .str x
def embT (k : List Key) : D := .tup (k.map embK)
mutual
inductive Dat (K : PySem.W.Frag) (B : Bx) (G : Hp) : V → D → Prop
  | non : Dat K B G .non .non
  | bl (b : Bool) : Dat K B G (.bl b) (.bl b)
  | int (i : Int) : Dat K B G (.int i) (.int i)
  | str (x : Str) : Dat K B G (.str x) (.str x)
  | lst {a : Addr} {xs : List V} {ds : List D} : G a = some (.lst xs) → Dats K B G xs ds → Dat K B G (.ref a) (.lst ds)
  | tup {a : Addr} {xs : List V} {ds : List D} : G a = some (.tup xs) → Dats K B G xs ds → Dat K B G (.ref a) (.tup ds)
  | ktup {a : Addr} {xs : List V} {ds : List D} : SqT K G a xs → Dats K B G xs ds → Dat K B G (.ref a) (.ktup ds)
  | dK {a : Addr} {od : Obj} {kvs : List (Key × V)} {ds : List (D × D)} : G a = some (.frz od (.dK kvs)) → DatK K B G kvs ds → Dat K B G (.ref a) (.dic ds)
  | dT {a : Addr} {od : Obj} {kvs : List (List Key × V)} {ds : List (D × D)} : G a = some (.frz od (.dT kvs)) → DatT K B G kvs ds → Dat K B G (.ref a) (.dic ds)
  | bag : Dat K B G (.ref B.b) .bag
  | obj {a dx : Addr} {C : Nat} {vs : List V} {fs : List D} : G a = some (SlX.SlO a (B.ct C) dx (vs.map some)) → G dx = some (.xd []) → Dats K B G vs fs → Dat K B G (.ref a) (.obj C fs)
inductive Dats (K : PySem.W.Frag) (B : Bx) (G : Hp) : List V → List D → Prop
  | nil : Dats K B G [] []
  | cons {v : V} {vs : List V} {d : D} {ds : List D} : Dat K B G v d → Dats K B G vs ds → Dats K B G (v :: vs) (d :: ds)
inductive DatK (K : PySem.W.Frag) (B : Bx) (G : Hp) : List (Key × V) → List (D × D) → Prop
  | nil : DatK K B G [] []
  | consI {i : Int} {v : V} {d : D} {vs : List (Key × V)} {ds : List (D × D)} : Dat K B G v d → DatK K B G vs ds → DatK K B G ((.inl i, v) :: vs) ((.int i, d) :: ds)
  | consS {x : Str} {v : V} {d : D} {vs : List (Key × V)} {ds : List (D × D)} : Dat K B G v d → DatK K B G vs ds → DatK K B G ((.inr x, v) :: vs) ((.str x, d) :: ds)
inductive DatT (K : PySem.W.Frag) (B : Bx) (G : Hp) : List (List Key × V) → List (D × D) → Prop
  | nil : DatT K B G [] []
  | cons {k : List Key} {v : V} {d : D} {vs : List (List Key × V)} {ds : List (D × D)} : Dat K B G v d → DatT K B G vs ds → DatT K B G ((k, v) :: vs) ((embT k, d) :: ds)
end
section
variable {K : PySem.W.Frag} {B : Bx} {G G' : Hp}
mutual
theorem Dat.mono (e : Ex G G') : ∀ {v : V} {d : D}, Dat K B G v d → Dat K B G' v d
  | _, _, .non => .non
  | _, _, .bl b => .bl b
  | _, _, .int i => .int i
  | _, _, .str x => .str x
  | _, _, .lst h t => .lst (e _ _ h) (Dats.mono e t)
  | _, _, .tup h t => .tup (e _ _ h) (Dats.mono e t)
  | _, _, .ktup h t => .ktup (ex_t e h) (Dats.mono e t)
  | _, _, .dK h t => .dK (e _ _ h) (DatK.mono e t)
  | _, _, .dT h t => .dT (e _ _ h) (DatT.mono e t)
  | _, _, .bag => .bag
  | _, _, .obj h h2 t => .obj (e _ _ h) (e _ _ h2) (Dats.mono e t)
theorem Dats.mono (e : Ex G G') : ∀ {v : List V} {d : List D}, Dats K B G v d → Dats K B G' v d
  | _, _, .nil => .nil
  | _, _, .cons h t => .cons (Dat.mono e h) (Dats.mono e t)
theorem DatK.mono (e : Ex G G') : ∀ {v : List (Key × V)} {d : List (D × D)}, DatK K B G v d → DatK K B G' v d
  | _, _, .nil => .nil
  | _, _, .consI h t => .consI (Dat.mono e h) (DatK.mono e t)
  | _, _, .consS h t => .consS (Dat.mono e h) (DatK.mono e t)
theorem DatT.mono (e : Ex G G') : ∀ {v : List (List Key × V)} {d : List (D × D)}, DatT K B G v d → DatT K B G' v d
  | _, _, .nil => .nil
  | _, _, .cons h t => .cons (Dat.mono e h) (DatT.mono e t)
end
theorem Dats.len : ∀ {v : List V} {d : List D}, Dats K B G v d → v.length = d.length
  | _, _, .nil => rfl
  | _, _, .cons _ t => by rw [List.length_cons, List.length_cons, Dats.len t]
theorem Dats.get : ∀ {v : List V} {d : List D} {i : Nat} {x : D}, Dats K B G v d → d[i]? = some x → ∃ u, v[i]? = some u ∧ Dat K B G u x
  | _, _, _, _, .nil, e => by simp at e
  | _, _, 0, _, .cons r _, e => by simp at e; subst e; exact ⟨_, rfl, r⟩
  | _, _, i + 1, x, .cons _ t, e => by
    obtain ⟨u, h1, h2⟩ := Dats.get (i := i) (x := x) t (by simpa using e)
    exact ⟨u, by simpa using h1, h2⟩
theorem Dats.append : ∀ {v w : List V} {d e : List D}, Dats K B G v d → Dats K B G w e → Dats K B G (v ++ w) (d ++ e)
  | _, _, _, _, .nil, s => s
  | _, _, _, _, .cons r t, s => .cons r (Dats.append t s)
theorem Dats.drop : ∀ {v : List V} {d : List D} (n : Nat), Dats K B G v d → Dats K B G (v.drop n) (d.drop n)
  | _, _, 0, r => r
  | _, _, _ + 1, .nil => .nil
  | _, _, n + 1, .cons _ t => Dats.drop n t
theorem Dats.take : ∀ {v : List V} {d : List D} (n : Nat), Dats K B G v d → Dats K B G (v.take n) (d.take n)
  | _, _, 0, _ => .nil
  | _, _, _ + 1, .nil => .nil
  | _, _, n + 1, .cons r t => .cons r (Dats.take n t)
theorem Dats.rep {v : List V} {d : List D} (h : Dats K B G v d) : ∀ k : Nat, Dats K B G (List.replicate k v).flatten (List.replicate k d).flatten
  | 0 => .nil
  | k + 1 => by
    rw [List.replicate_succ, List.replicate_succ, List.flatten_cons, List.flatten_cons]
    exact h.append (Dats.rep h k)
end
/-- a tuple that is known stands there -/
theorem tx {K : PySem.W.Frag} {G H : Hp} {a : Addr} {xs : List V} (e : Ex G H) (h : G a = some (.tup xs)) : SqT K H a xs := st_of (e _ _ h)
def BagOk (K : PySem.W.Frag) (B : Bx) (G H : Hp) : Prop :=
  ∃ (a b c : Int) (ns : List Int), H B.b = some (.lst [.int a, .int b, .int c, .ref B.L]) ∧ SqL K G B.L (ns.map V.int) ∧ 0 ≤ a ∧ 0 ≤ b ∧ b < 2147483647 ∧ 0 ≤ c ∧ (∀ n ∈ ns, 0 ≤ n) ∧ ns.length ≤ 63
/-- what may be learnt where it stands: a tuple, a code object -/
def Lrn (a : Addr) (o : HO) : Prop := (∃ vs, o = .tup vs) ∨ ∃ q, o = LamX.CodeO a q
theorem nl {a : Addr} {o : HO} (h : (match o with | .tup _ => false | .ext _ => false | _ => true) = true) : ¬ Lrn a o := by
  rintro (⟨vs, rfl⟩ | ⟨q, rfl⟩)
  · cases h
  · unfold LamX.CodeO at h
    cases h
theorem nlx {a : Addr} {φ : Heap → Prop} (h : ∀ hp o, φ hp → hp.get? a = some o → o.cls ≠ .none) : ¬ Lrn a (.ext φ) := by
  rintro (⟨vs, e⟩ | ⟨q, e⟩)
  · cases e
  · unfold LamX.CodeO at e
    injection e with e
    have g : ({ objs := Array.replicate (a + 1) ({ cls := .none, data := .fields #[.none, .str q default] } : Obj) } : Heap).get? a = some ({ cls := .none, data := .fields #[.none, .str q default] } : Obj) := by
      show (match (Array.replicate (a + 1) ({ cls := .none, data := .fields #[.none, .str q default] } : Obj))[a]? with | some ⟨_, _, .freed, _⟩ => none | o => o) = _
      rw [Array.getElem?_replicate, if_pos (Nat.lt_succ_self a)]
    refine h _ _ ?_ g rfl
    rw [e]
    exact ⟨_, _, _, g, rfl, rfl⟩
/-- something that may not be learnt stands there -/
def Mu (H : Hp) (a : Addr) : Prop := ∃ o, H a = some o ∧ ¬ Lrn a o
theorem Mu.ne {H : Hp} {a : Addr} (h : Mu H a) : H a ≠ none := by
  obtain ⟨o, e, _⟩ := h
  rw [e]
  simp
/-- a table of code stands there, its code objects known -/
def TabG (G H : Hp) (P : Addr) (q : Str) : Prop := ∃ ps : Array Value, H P = some (.tbl ps) ∧ TriplesOk ps.toList ∧ ∀ (pos : Pos) (cv : Value), codeAmong pos ps.toList = some cv → ∃ c, cv = .ref c ∧ G c = some (LamX.CodeO c q)
/-- the tables of code stand; all is as it was at the anchor, or grown -/
structure Xt (B : Bx) (G H : Hp) : Prop where
  tb : ∀ t ∈ B.tb, TabG G H t.1 t.2 ∧ G t.1 = none
  ex : ∀ u, B.up = some u → Ex u.1 G
  keep : ∀ u, B.up = some u → ∀ a o, B.st a → u.2 a = some o → H a = some o
  old : ∀ u, B.up = some u → ∀ a, Mu u.2 a → G a = u.1 a
/-- no table of code -/
def noTb : HO → Bool
  | .tbl _ => false
  | _ => true
structure Jn (K : PySem.W.Frag) (B : Bx) (G H : Hp) : Prop where
  ex : Ex G H
  no : G B.b = none
  bag : BagOk K B G H
  xt : Xt B G H
/-- what is of the anchor's time and may not be learnt still stands so -/
theorem Jn.mu {K : PySem.W.Frag} {B : Bx} {G H : Hp} (j : Jn K B G H) (u : Hp × Hp) (hu : B.up = some u) (a : Addr) (m : Mu u.2 a) : Mu H a := by
  by_cases e : a = B.b
  · subst e
    obtain ⟨_, _, _, _, ho, _⟩ := j.bag
    exact ⟨_, ho, nl rfl⟩
  · by_cases e2 : ∃ t ∈ B.tb, a = t.1
    · obtain ⟨t, h, rfl⟩ := e2
      obtain ⟨⟨ps, h1, _⟩, _⟩ := j.xt.tb t h
      exact ⟨_, h1, nl rfl⟩
    · obtain ⟨o, h1, h2⟩ := m
      exact ⟨o, j.xt.keep u hu a o ⟨e, fun t h z => e2 ⟨t, h, z⟩⟩ h1, h2⟩
theorem Jn.next {K : PySem.W.Frag} {B : Bx} {G H G2 H2 : Hp} (j : Jn K B G H) (ex : Ex G G2) (hk : ∀ a o, ¬ B.nb a → H a = some o → H2 a = some o) (hg : ∀ a, ¬ B.nb a → Mu H a → G2 a = G a)
    (ht : ∀ t ∈ B.tb, (∃ ps, H t.1 = some (.tbl ps)) → H2 t.1 = H t.1 ∧ (G t.1 = none → G2 t.1 = none)) (_ : ∀ a ps, H2 a = some (.tbl ps) → ∃ ps', H a = some (.tbl ps')) : Xt B G2 H2 where
  tb := fun t h => by
    obtain ⟨⟨ps, a, b, c⟩, d⟩ := j.xt.tb t h
    obtain ⟨e1, e2⟩ := ht t h ⟨ps, a⟩
    exact ⟨⟨ps, e1.trans a, b, fun pos cv z => let ⟨c0, z1, z2⟩ := c pos cv z; ⟨c0, z1, ex _ _ z2⟩⟩, e2 d⟩
  ex := fun u h => (j.xt.ex u h).trans ex
  keep := fun u h a o s e => hk a o (fun n => by have z := n.2 u h; rw [z] at e; cases e) (j.xt.keep u h a o s e)
  old := fun u h a m => by
    rw [hg a (fun n => m.ne (n.2 u h)) (j.mu u h a m)]
    exact j.xt.old u h a m
/-- .. where one object was put -/
theorem tbUpd {H : Hp} {p : Addr} {o : HO} (ho : noTb o = true) : ∀ a ps, upd H p o a = some (.tbl ps) → ∃ ps', H a = some (.tbl ps') := fun a ps h => by
  by_cases e : a = p
  · subst e
    rw [upd_same] at h
    cases h
    cases ho
  · rw [upd_ne e] at h
    exact ⟨_, h⟩
/-- the place of an own thing is no table -/
theorem Bx.nb.tab {B : Bx} {p : Addr} (n : B.nb p) : ∀ t ∈ B.tb, t.1 ≠ p := fun t h z => n.1.2 t h z.symm
structure Gr (K : PySem.W.Frag) (B : Bx) (G H G2 H2 : Hp) : Prop where
  ex : Ex G G2
  kp : ∀ a o, B.st a → H a = some o → H2 a = some o
  j : Jn K B G2 H2
  old : ∀ a, Mu H a → G2 a = G a
section
variable {K : PySem.W.Frag} {B : Bx} {G H G2 H2 G3 H3 : Hp}
theorem Jn.at (j : Jn K B G H) : ∃ o, H B.b = some o := let ⟨_, _, _, _, h, _⟩ := j.bag; ⟨_, h⟩
theorem Gr.keep (x : Gr K B G H G2 H2) (a : Addr) (o : HO) (n : B.nb a) (h : H a = some o) : H2 a = some o := x.kp a o n.1 h
theorem Gr.refl (j : Jn K B G H) : Gr K B G H G H := ⟨Ex.refl G, fun _ _ _ h => h, j, fun _ _ => rfl⟩
theorem Gr.mu (x : Gr K B G H G2 H2) {a : Addr} (h : Mu H a) : Mu H2 a := by
  by_cases e : a = B.b
  · subst e
    obtain ⟨_, _, _, _, ho, _⟩ := x.j.bag
    exact ⟨_, ho, nl rfl⟩
  · by_cases e2 : ∃ t ∈ B.tb, a = t.1
    · obtain ⟨t, ht, rfl⟩ := e2
      obtain ⟨⟨ps, h1, _⟩, _⟩ := x.j.xt.tb t ht
      exact ⟨_, h1, nl rfl⟩
    · obtain ⟨o, q, n⟩ := h
      exact ⟨o, x.kp a o ⟨e, fun t ht z => e2 ⟨t, ht, z⟩⟩ q, n⟩
/-- what stands somewhere goes on to stand there -/
theorem Gr.stay (x : Gr K B G H G2 H2) {a : Addr} {o : HO} (h : H a = .some o) : H2 a ≠ none := by
  by_cases e : a = B.b
  · subst e
    obtain ⟨o, ho⟩ := x.j.at
    rw [ho]
    simp
  · by_cases e2 : ∃ t ∈ B.tb, a = t.1
    · obtain ⟨t, ht, rfl⟩ := e2
      obtain ⟨⟨ps, h1, _⟩, _⟩ := x.j.xt.tb t ht
      rw [h1]
      simp
    · rw [x.kp a o ⟨e, fun t ht z => e2 ⟨t, ht, z⟩⟩ h]
      simp
theorem Gr.trans (x : Gr K B G H G2 H2) (y : Gr K B G2 H2 G3 H3) : Gr K B G H G3 H3 where
  ex := x.ex.trans y.ex
  kp := fun a o n h => y.kp a o n (x.kp a o n h)
  j := y.j
  old := fun a h => by
    rw [y.old a (x.mu h), x.old a h]
/-- a new object, known from now on -/
theorem Gr.new {p : Addr} {o : HO} (j : Jn K B G H) (hp : H p = none) (ho : noTb o = true := by rfl) : Gr K B G H (upd G p o) (upd H p o) := by
  have np : G p = none := fresh_back j.ex hp
  have nb : B.b ≠ p := fun e => by obtain ⟨o, ho⟩ := j.at; rw [e, hp] at ho; cases ho
  refine ⟨Ex.new np, fun a u _ h => ?_, ⟨fun a u h => ?_, by rw [upd_ne nb]; exact j.no, ?_, j.next (Ex.new np) (fun a u _ h => by rw [upd_ne (ne_of_none h hp)]; exact h) (fun a _ h => upd_ne fun e => by subst e; exact h.ne hp) (fun t _ ⟨ps, z⟩ => have n : t.1 ≠ p := ne_of_none z hp; ⟨upd_ne n, fun g => by rw [upd_ne n]; exact g⟩) (tbUpd ho)⟩, fun a h => ?_⟩
  · rw [upd_ne (ne_of_none h hp)]; exact h
  · by_cases e : a = p
    · subst e; rw [upd_same] at h ⊢; exact h
    · rw [upd_ne e] at h ⊢; exact j.ex a u h
  · obtain ⟨a, b, c, ns, h1, h2, h3⟩ := j.bag
    exact ⟨a, b, c, ns, by rw [upd_ne nb]; exact h1, ex_l (Ex.new np) h2, h3⟩
  · exact upd_ne fun e => by subst e; exact h.ne hp
/-- a new object, not known -/
theorem Gr.new0 {p : Addr} {o : HO} (j : Jn K B G H) (hp : H p = none) (ho : noTb o = true := by rfl) : Gr K B G H G (upd H p o) := by
  have np : G p = none := fresh_back j.ex hp
  have nb : B.b ≠ p := fun e => by obtain ⟨o, ho⟩ := j.at; rw [e, hp] at ho; cases ho
  refine ⟨Ex.refl G, fun a u _ h => ?_, ⟨fun a u h => ?_, j.no, ?_, j.next (Ex.refl G) (fun a u _ h => by rw [upd_ne (ne_of_none h hp)]; exact h) (fun a _ h => rfl) (fun t _ ⟨ps, z⟩ => have n : t.1 ≠ p := ne_of_none z hp; ⟨upd_ne n, fun g => g⟩) (tbUpd ho)⟩, fun a h => rfl⟩
  · rw [upd_ne (ne_of_none h hp)]; exact h
  · rw [upd_ne (ne_of_none h np)]; exact j.ex a u h
  · obtain ⟨a, b, c, ns, h1, h2, h3⟩ := j.bag
    exact ⟨a, b, c, ns, by rw [upd_ne nb]; exact h1, h2, h3⟩
theorem notTup {a : Addr} {vs : List V} (h : Mu H a) (hp : H a = some (.tup vs)) : False := by
  obtain ⟨o, q, n⟩ := h
  rw [hp] at q
  cases q
  exact n (.inl ⟨_, rfl⟩)
/-- a tuple that stands there is known from now on -/
theorem Gr.learn {p : Addr} {vs : List V} (j : Jn K B G H) (hp : H p = some (.tup vs)) (gp : G p = none) : Gr K B G H (upd G p (.tup vs)) H := by
  have nb : B.b ≠ p := fun e => by
    obtain ⟨_, _, _, _, ho, _⟩ := j.bag
    rw [e, hp] at ho
    cases ho
  refine ⟨Ex.new gp, fun _ _ _ h => h, ⟨fun a u h => ?_, by rw [upd_ne nb]; exact j.no, ?_, j.next (Ex.new gp) (fun _ _ _ h => h) (fun a _ h => upd_ne fun e => by subst e; exact notTup h hp) (fun t _ ⟨ps, z⟩ => ⟨rfl, fun g => by rw [upd_ne fun e => by rw [e, hp] at z; cases z]; exact g⟩) (fun _ _ h => ⟨_, h⟩)⟩, fun a h => upd_ne fun e => ?_⟩
  · by_cases e : a = p
    · subst e; rw [upd_same] at h; cases h; exact hp
    · rw [upd_ne e] at h; exact j.ex a u h
  · obtain ⟨a, b, c, ns, h1, h2, h3⟩ := j.bag
    exact ⟨a, b, c, ns, h1, ex_l (Ex.new gp) h2, h3⟩
  · subst e
    exact notTup h hp
/-- an object of one's own changes -/
theorem Gr.own {p : Addr} {o : HO} (x : Gr K B G H G2 H2) (hp : H p = none) (gp : G2 p = none) (nb : B.nb p) (ho : noTb o = true := by rfl) : Gr K B G H G2 (upd H2 p o) := by
  refine ⟨x.ex, fun a u n h => ?_, ⟨fun a u h => ?_, x.j.no, ?_, x.j.next (Ex.refl _) (fun a u n h => by rw [upd_ne fun e => n (by rw [e]; exact nb)]; exact h) (fun a _ _ => rfl) (fun t h _ => ⟨upd_ne (nb.tab t h), fun g => g⟩) (tbUpd ho)⟩, x.old⟩
  · rw [upd_ne (ne_of_none h hp)]; exact x.kp a u n h
  · rw [upd_ne (ne_of_none h gp)]; exact x.j.ex a u h
  · obtain ⟨a, b, c, ns, h1, h2, h3⟩ := x.j.bag
    exact ⟨a, b, c, ns, by rw [upd_ne (Ne.symm nb.1.1)]; exact h1, h2, h3⟩
/-- an object of one's own becomes known -/
theorem Gr.frz {p : Addr} {o : HO} (x : Gr K B G H G2 H2) (hp : H p = none) (gp : G2 p = none) (nb : B.nb p) (h2 : H2 p = some o) : Gr K B G H (upd G2 p o) H2 := by
  refine ⟨x.ex.trans (Ex.new gp), x.kp, ⟨fun a u h => ?_, by rw [upd_ne (Ne.symm nb.1.1)]; exact x.j.no, ?_, x.j.next (Ex.new gp) (fun _ _ _ h => h) (fun a n _ => upd_ne fun e => n (by rw [e]; exact nb)) (fun t h _ => ⟨rfl, fun g => by rw [upd_ne (nb.tab t h)]; exact g⟩) (fun _ _ h => ⟨_, h⟩)⟩, fun a h => ?_⟩
  · by_cases e : a = p
    · subst e; rw [upd_same] at h; cases h; exact h2
    · rw [upd_ne e] at h; exact x.j.ex a u h
  · obtain ⟨a, b, c, ns, h1, h3, h4⟩ := x.j.bag
    exact ⟨a, b, c, ns, h1, ex_l (Ex.new gp) h3, h4⟩
  · rw [upd_ne fun e => by subst e; exact h.ne hp]
    exact x.old a h
end
inductive OD where
  | sh (d : D) | lst (xs : List OD) | dic (t : Bool) (ks : List (D × OD))
mutual
inductive Own (K : PySem.W.Frag) (B : Bx) (G H : Hp) : V → OD → List Addr → Prop
  | sh {v : V} {d : D} : Dat K B G v d → Own K B G H v (.sh d) []
  | lst {p : Addr} {vs : List V} {xs : List OD} {f : List Addr} : H p = some (.lst vs) → G p = none → Owns K B G H vs xs f → Own K B G H (.ref p) (.lst xs) (p :: f)
  | dK {p : Addr} {kvs : List (Key × V)} {ks : List (D × OD)} {f : List Addr} : H p = some (.dK kvs) → G p = none → OwnK K B G H kvs ks f → Own K B G H (.ref p) (.dic false ks) (p :: f)
  | dT {p : Addr} {kvs : List (List Key × V)} {ks : List (D × OD)} {f : List Addr} : H p = some (.dT kvs) → G p = none → OwnT K B G H kvs ks f → Own K B G H (.ref p) (.dic true ks) (p :: f)
inductive Owns (K : PySem.W.Frag) (B : Bx) (G H : Hp) : List V → List OD → List Addr → Prop
  | nil : Owns K B G H [] [] []
  | cons {v : V} {o : OD} {f : List Addr} {vs : List V} {os : List OD} {g : List Addr} : Own K B G H v o f → Owns K B G H vs os g → Owns K B G H (v :: vs) (o :: os) (f ++ g)
inductive OwnK (K : PySem.W.Frag) (B : Bx) (G H : Hp) : List (Key × V) → List (D × OD) → List Addr → Prop
  | nil : OwnK K B G H [] [] []
  | consI {i : Int} {v : V} {o : OD} {f : List Addr} {vs : List (Key × V)} {os : List (D × OD)} {g : List Addr} : Own K B G H v o f → OwnK K B G H vs os g → OwnK K B G H ((.inl i, v) :: vs) ((.int i, o) :: os) (f ++ g)
  | consS {x : Str} {v : V} {o : OD} {f : List Addr} {vs : List (Key × V)} {os : List (D × OD)} {g : List Addr} : Own K B G H v o f → OwnK K B G H vs os g → OwnK K B G H ((.inr x, v) :: vs) ((.str x, o) :: os) (f ++ g)
inductive OwnT (K : PySem.W.Frag) (B : Bx) (G H : Hp) : List (List Key × V) → List (D × OD) → List Addr → Prop
  | nil : OwnT K B G H [] [] []
  | cons {k : List Key} {v : V} {o : OD} {f : List Addr} {vs : List (List Key × V)} {os : List (D × OD)} {g : List Addr} : Own K B G H v o f → OwnT K B G H vs os g → OwnT K B G H ((k, v) :: vs) ((embT k, o) :: os) (f ++ g)
end
section
variable {K : PySem.W.Frag} {B : Bx} {G H G2 H2 : Hp}
/-- the places of f stand as they stood -/
def Kept (G H G2 H2 : Hp) (f : List Addr) : Prop := ∀ p ∈ f, H2 p = H p ∧ G2 p = G p
theorem Kept.l {f g : List Addr} (h : Kept G H G2 H2 (f ++ g)) : Kept G H G2 H2 f := fun p hp => h p (List.mem_append_left _ hp)
theorem Kept.r {f g : List Addr} (h : Kept G H G2 H2 (f ++ g)) : Kept G H G2 H2 g := fun p hp => h p (List.mem_append_right _ hp)
theorem Kept.h {p : Addr} {f : List Addr} (h : Kept G H G2 H2 (p :: f)) : H2 p = H p ∧ G2 p = G p := h p List.mem_cons_self
theorem Kept.t {p : Addr} {f : List Addr} (h : Kept G H G2 H2 (p :: f)) : Kept G H G2 H2 f := fun q hq => h q (List.mem_cons_of_mem _ hq)
mutual
theorem Own.keep (e : Ex G G2) : ∀ {v : V} {o : OD} {f : List Addr}, Own K B G H v o f → Kept G H G2 H2 f → Own K B G2 H2 v o f
  | _, _, _, .sh h, _ => .sh (h.mono e)
  | _, _, _, .lst h g t, k => .lst (k.h.1.trans h) (k.h.2.trans g) (Owns.keep e t k.t)
  | _, _, _, .dK h g t, k => .dK (k.h.1.trans h) (k.h.2.trans g) (OwnK.keep e t k.t)
  | _, _, _, .dT h g t, k => .dT (k.h.1.trans h) (k.h.2.trans g) (OwnT.keep e t k.t)
theorem Owns.keep (e : Ex G G2) : ∀ {v : List V} {o : List OD} {f : List Addr}, Owns K B G H v o f → Kept G H G2 H2 f → Owns K B G2 H2 v o f
  | _, _, _, .nil, _ => .nil
  | _, _, _, .cons h t, k => .cons (Own.keep e h k.l) (Owns.keep e t k.r)
theorem OwnK.keep (e : Ex G G2) : ∀ {v : List (Key × V)} {o : List (D × OD)} {f : List Addr}, OwnK K B G H v o f → Kept G H G2 H2 f → OwnK K B G2 H2 v o f
  | _, _, _, .nil, _ => .nil
  | _, _, _, .consI h t, k => .consI (Own.keep e h k.l) (OwnK.keep e t k.r)
  | _, _, _, .consS h t, k => .consS (Own.keep e h k.l) (OwnK.keep e t k.r)
theorem OwnT.keep (e : Ex G G2) : ∀ {v : List (List Key × V)} {o : List (D × OD)} {f : List Addr}, OwnT K B G H v o f → Kept G H G2 H2 f → OwnT K B G2 H2 v o f
  | _, _, _, .nil, _ => .nil
  | _, _, _, .cons h t, k => .cons (Own.keep e h k.l) (OwnT.keep e t k.r)
end
/-- an own place: a list or a dict stands there, and nobody knows it -/
def Node (G H : Hp) (p : Addr) : Prop := G p = none ∧ ((∃ vs, H p = some (.lst vs)) ∨ (∃ vs, H p = some (.dK vs)) ∨ ∃ vs, H p = some (.dT vs))
theorem Node.at {p : Addr} (n : Node G H p) : Mu H p := by
  rcases n.2 with ⟨_, h⟩ | ⟨_, h⟩ | ⟨_, h⟩ <;> exact ⟨_, h, nl rfl⟩
mutual
theorem Own.node : ∀ {v : V} {o : OD} {f : List Addr}, Own K B G H v o f → ∀ p ∈ f, Node G H p
  | _, _, _, .sh _, p, hp => nomatch hp
  | _, _, _, .lst h g t, p, hp => (List.mem_cons.mp hp).elim (fun e => by subst e; exact ⟨g, .inl ⟨_, h⟩⟩) (Owns.node t p)
  | _, _, _, .dK h g t, p, hp => (List.mem_cons.mp hp).elim (fun e => by subst e; exact ⟨g, .inr (.inl ⟨_, h⟩)⟩) (OwnK.node t p)
  | _, _, _, .dT h g t, p, hp => (List.mem_cons.mp hp).elim (fun e => by subst e; exact ⟨g, .inr (.inr ⟨_, h⟩)⟩) (OwnT.node t p)
theorem Owns.node : ∀ {v : List V} {o : List OD} {f : List Addr}, Owns K B G H v o f → ∀ p ∈ f, Node G H p
  | _, _, _, .nil, p, hp => nomatch hp
  | _, _, _, .cons h t, p, hp => (List.mem_append.mp hp).elim (Own.node h p) (Owns.node t p)
theorem OwnK.node : ∀ {v : List (Key × V)} {o : List (D × OD)} {f : List Addr}, OwnK K B G H v o f → ∀ p ∈ f, Node G H p
  | _, _, _, .nil, p, hp => nomatch hp
  | _, _, _, .consI h t, p, hp => (List.mem_append.mp hp).elim (Own.node h p) (OwnK.node t p)
  | _, _, _, .consS h t, p, hp => (List.mem_append.mp hp).elim (Own.node h p) (OwnK.node t p)
theorem OwnT.node : ∀ {v : List (List Key × V)} {o : List (D × OD)} {f : List Addr}, OwnT K B G H v o f → ∀ p ∈ f, Node G H p
  | _, _, _, .nil, p, hp => nomatch hp
  | _, _, _, .cons h t, p, hp => (List.mem_append.mp hp).elim (Own.node h p) (OwnT.node t p)
end
mutual
def OD.toD : OD → D
  | .sh d => d
  | .lst xs => .lst (toDs xs)
  | .dic _ ks => .dic (toDk ks)
def toDs : List OD → List D
  | [] => []
  | x :: xs => x.toD :: toDs xs
def toDk : List (D × OD) → List (D × D)
  | [] => []
  | (k, x) :: xs => (k, x.toD) :: toDk xs
end
def frzG (G H : Hp) (f : List Addr) : Hp := fun a => if a ∈ f then H a else G a
theorem frz_ex {f : List Addr} (h : ∀ p ∈ f, G p = none) : Ex G (frzG G H f) := fun a o e => by
  unfold frzG
  rw [if_neg fun z => by rw [h a z] at e; cases e]
  exact e
theorem frz_in {f : List Addr} {p : Addr} (h : p ∈ f) : frzG G H f p = H p := if_pos h
/-- the dicts at these places are locked -/
structure Lkd (H L : Hp) (f : List Addr) : Prop where
  out : ∀ p, p ∉ f → L p = H p
  lst : ∀ p vs, H p = some (.lst vs) → L p = some (.lst vs)
  dK : ∀ p vs, p ∈ f → H p = some (.dK vs) → ∃ od, L p = some (.frz od (.dK vs))
  dT : ∀ p vs, p ∈ f → H p = some (.dT vs) → ∃ od, L p = some (.frz od (.dT vs))
  tb : ∀ p ps, L p = some (.tbl ps) → H p = some (.tbl ps)
mutual
theorem Own.dat {L : Hp} {F : List Addr} (hF : ∀ p ∈ F, G p = none) (hL : Lkd H L F) : ∀ {v : V} {o : OD} {f : List Addr}, Own K B G H v o f → (∀ p ∈ f, p ∈ F) → Dat K B (frzG G L F) v o.toD
  | _, _, _, .sh h, _ => h.mono (frz_ex hF)
  | _, _, _, .lst h g t, k => .lst ((frz_in (k _ List.mem_cons_self)).trans (hL.lst _ _ h)) (Owns.dat hF hL t fun p hp => k p (List.mem_cons_of_mem _ hp))
  | _, _, _, .dK h g t, k => let ⟨_, e⟩ := hL.dK _ _ (k _ List.mem_cons_self) h; .dK ((frz_in (k _ List.mem_cons_self)).trans e) (OwnK.dat hF hL t fun p hp => k p (List.mem_cons_of_mem _ hp))
  | _, _, _, .dT h g t, k => let ⟨_, e⟩ := hL.dT _ _ (k _ List.mem_cons_self) h; .dT ((frz_in (k _ List.mem_cons_self)).trans e) (OwnT.dat hF hL t fun p hp => k p (List.mem_cons_of_mem _ hp))
theorem Owns.dat {L : Hp} {F : List Addr} (hF : ∀ p ∈ F, G p = none) (hL : Lkd H L F) : ∀ {v : List V} {o : List OD} {f : List Addr}, Owns K B G H v o f → (∀ p ∈ f, p ∈ F) → Dats K B (frzG G L F) v (toDs o)
  | _, _, _, .nil, _ => .nil
  | _, _, _, .cons h t, k => .cons (Own.dat hF hL h fun p hp => k p (List.mem_append_left _ hp)) (Owns.dat hF hL t fun p hp => k p (List.mem_append_right _ hp))
theorem OwnK.dat {L : Hp} {F : List Addr} (hF : ∀ p ∈ F, G p = none) (hL : Lkd H L F) : ∀ {v : List (Key × V)} {o : List (D × OD)} {f : List Addr}, OwnK K B G H v o f → (∀ p ∈ f, p ∈ F) → DatK K B (frzG G L F) v (toDk o)
  | _, _, _, .nil, _ => .nil
  | _, _, _, .consI h t, k => .consI (Own.dat hF hL h fun p hp => k p (List.mem_append_left _ hp)) (OwnK.dat hF hL t fun p hp => k p (List.mem_append_right _ hp))
  | _, _, _, .consS h t, k => .consS (Own.dat hF hL h fun p hp => k p (List.mem_append_left _ hp)) (OwnK.dat hF hL t fun p hp => k p (List.mem_append_right _ hp))
theorem OwnT.dat {L : Hp} {F : List Addr} (hF : ∀ p ∈ F, G p = none) (hL : Lkd H L F) : ∀ {v : List (List Key × V)} {o : List (D × OD)} {f : List Addr}, OwnT K B G H v o f → (∀ p ∈ f, p ∈ F) → DatT K B (frzG G L F) v (toDk o)
  | _, _, _, .nil, _ => .nil
  | _, _, _, .cons h t, k => .cons (Own.dat hF hL h fun p hp => k p (List.mem_append_left _ hp)) (OwnT.dat hF hL t fun p hp => k p (List.mem_append_right _ hp))
end
/-- a list of data, all shared -/
theorem Owns.of : ∀ {vs : List V} {ds : List D}, Dats K B G vs ds → Owns K B G H vs (ds.map .sh) []
  | _, _, .nil => .nil
  | _, _, .cons h t => .cons (.sh h) (Owns.of t)
theorem toDs_sh : ∀ ds : List D, toDs (ds.map .sh) = ds
  | [] => rfl
  | d :: ds => by rw [List.map_cons, toDs, toDs_sh ds]; rfl
end
inductive SD where
  | sh (d : D) | ow (v : V) (o : OD) | nw (x : Addr) (C : Nat) (fs : List (Option D))
def FldOk (K : PySem.W.Frag) (B : Bx) (G : Hp) (vs : List (Option V)) (fs : List (Option D)) : Prop :=
  vs.length = fs.length ∧ ∀ (i : Nat) (d : D), fs[i]? = some (some d) → ∃ v, vs[i]? = some (some v) ∧ Dat K B G v d
theorem FldOk.mono {K : PySem.W.Frag} {B : Bx} {G G2 : Hp} {vs : List (Option V)} {fs : List (Option D)} (h : FldOk K B G vs fs) (e : Ex G G2) : FldOk K B G2 vs fs :=
  ⟨h.1, fun i d q => let ⟨v, a, b⟩ := h.2 i d q; ⟨v, a, b.mono e⟩⟩
/-- an instance that is being made: its fields so far -/
structure NwAt (K : PySem.W.Frag) (B : Bx) (H0 G H : Hp) (x : Addr) (C : Nat) (dx : Addr) (vs : List (Option V)) (fs : List (Option D)) : Prop where
  sl : SlX.Slt H x (B.ct C) dx vs
  dc : H dx = some (.own x) ∨ H dx = some (.xd [])
  ne : dx ≠ x
  gx : G x = none
  gd : G dx = none
  hx : H0 x = none
  hd : H0 dx = none
  bx : B.nb x
  bd : B.nb dx
  fl : FldOk K B G vs fs
theorem slO_mu {H : Hp} {x C dx : Addr} {vs : List (Option V)} (h : H x = some (SlX.SlO x C dx vs)) : Mu H x := ⟨_, h, nlx fun hp o z g => by
  obtain ⟨sl, e, _⟩ := z
  rw [e] at g
  cases g
  simp⟩
theorem slt_keep {H H2 : Hp} {x C dx : Addr} {vs : List (Option V)} (h : SlX.Slt H x C dx vs) (k1 : ∀ o, H x = some o → H2 x = some o) (k2 : ∀ o, H dx = some o → H2 dx = some o) : SlX.Slt H2 x C dx vs := by
  rcases h with ⟨a, b⟩ | ⟨a, b⟩
  · exact .inl ⟨k1 _ a, b⟩
  · exact .inr ⟨k1 _ a, k2 _ b⟩
theorem NwAt.keep {K : PySem.W.Frag} {B : Bx} {H0 G H G2 H2 : Hp} {x dx : Addr} {C : Nat} {vs : List (Option V)} {fs : List (Option D)} (n : NwAt K B H0 G H x C dx vs fs) (e : Ex G G2) (k : Kept G H G2 H2 [x, dx]) : NwAt K B H0 G2 H2 x C dx vs fs := by
  have k1 := k x (by simp)
  have k2 := k dx (by simp)
  exact ⟨slt_keep n.sl (fun o z => k1.1.trans z) (fun o z => k2.1.trans z), n.dc.imp (fun z => k2.1.trans z) (fun z => k2.1.trans z), n.ne, k1.2.trans n.gx, k2.2.trans n.gd, n.hx, n.hd, n.bx, n.bd, n.fl.mono e⟩
abbrev DS := List (Option SD)
/-- what stands in a slot, and the places that are its own -/
inductive SlotOk (K : PySem.W.Frag) (B : Bx) (H0 G H : Hp) : Option V → Option SD → List Addr → Prop
  | no {ov : Option V} : SlotOk K B H0 G H ov none []
  | sh {v : V} {d : D} : Dat K B G v d → SlotOk K B H0 G H (some v) (some (.sh d)) []
  | ow {v : V} {o : OD} {f : List Addr} : Own K B G H v o f → f.Nodup → (∀ p ∈ f, H0 p = none ∧ B.nb p) → SlotOk K B H0 G H (some v) (some (.ow v o)) f
  | nw {x dx : Addr} {C : Nat} {vs : List (Option V)} {fs : List (Option D)} : NwAt K B H0 G H x C dx vs fs → SlotOk K B H0 G H (some (.ref x)) (some (.nw x C fs)) [x, dx]
section
variable {K : PySem.W.Frag} {B : Bx} {H0 G H G2 H2 : Hp} {σ : L2.St} {δ : DS} {ov : Option V} {od : Option SD} {f : List Addr}
theorem SlotOk.keep (s : SlotOk K B H0 G H ov od f) (e : Ex G G2) (k : Kept G H G2 H2 f) : SlotOk K B H0 G2 H2 ov od f := by
  cases s with
  | no => exact .no
  | sh h => exact .sh (h.mono e)
  | ow h n q => exact .ow (h.keep e k) n q
  | nw n => exact .nw (n.keep e k)
theorem SlotOk.at (s : SlotOk K B H0 G H ov od f) : ∀ p ∈ f, Mu H p ∧ B.nb p ∧ G p = none ∧ H0 p = none := by
  cases s with
  | no => exact fun p hp => nomatch hp
  | sh h => exact fun p hp => nomatch hp
  | ow h n q => exact fun p hp => ⟨(h.node p hp).at, (q p hp).2, (h.node p hp).1, (q p hp).1⟩
  | @nw x dx C vs fs n =>
    intro p hp
    rcases (show p = x ∨ p = dx by simpa using hp) with rfl | rfl
    · exact ⟨by
        rcases n.sl with ⟨q, _⟩ | ⟨q, _⟩
        · exact ⟨_, q, nl rfl⟩
        · exact slO_mu q, n.bx, n.gx, n.hx⟩
    · exact ⟨by rcases n.dc with q | q <;> exact ⟨_, q, nl rfl⟩, n.bd, n.gd, n.hd⟩
/-- all slots, by their own places -/
structure StF (K : PySem.W.Frag) (B : Bx) (H0 G H : Hp) (σ : L2.St) (δ : DS) (F : Nat → List Addr) : Prop where
  len : σ.length = δ.length
  at_ : ∀ (i : Nat) (ov : Option V) (od : Option SD), σ[i]? = some ov → δ[i]? = some od → SlotOk K B H0 G H ov od (F i)
  dj : ∀ (i j : Nat), i < σ.length → j < σ.length → i ≠ j → ∀ p ∈ F i, p ∉ F j
structure StOk (K : PySem.W.Frag) (B : Bx) (H0 G H : Hp) (σ : L2.St) (δ : DS) : Prop where
  ex : ∃ F, StF K B H0 G H σ δ F
theorem StOk.len (x : StOk K B H0 G H σ δ) : σ.length = δ.length := let ⟨_, h⟩ := x.ex; h.len
theorem StF.get {F : Nat → List Addr} (x : StF K B H0 G H σ δ F) {i : Nat} {od : Option SD} (h : δ[i]? = some od) : ∃ ov, σ[i]? = some ov ∧ SlotOk K B H0 G H ov od (F i) := by
  have hl : i < σ.length := by rw [x.len]; exact (List.getElem?_eq_some_iff.mp h).1
  exact ⟨σ[i], List.getElem?_eq_getElem hl, x.at_ i _ od (List.getElem?_eq_getElem hl) h⟩
theorem StOk.sh (x : StOk K B H0 G H σ δ) (i : Nat) (d : D) (h : δ[i]? = some (some (.sh d))) : ∃ v, σ[i]? = some (some v) ∧ Dat K B G v d := by
  obtain ⟨F, y⟩ := x.ex
  obtain ⟨ov, h1, s⟩ := y.get h
  generalize F i = f at s
  cases s with
  | sh q => exact ⟨_, h1, q⟩
theorem StOk.nw (x : StOk K B H0 G H σ δ) (i : Nat) (a : Addr) (C : Nat) (fs : List (Option D)) (h : δ[i]? = some (some (.nw a C fs))) : ∃ dx vs, σ[i]? = some (some (.ref a)) ∧ NwAt K B H0 G H a C dx vs fs := by
  obtain ⟨F, y⟩ := x.ex
  obtain ⟨ov, h1, s⟩ := y.get h
  generalize F i = f at s
  cases s with
  | nw n => exact ⟨_, _, h1, n⟩
theorem StF.ow {F : Nat → List Addr} (x : StF K B H0 G H σ δ F) {i : Nat} {v : V} {o : OD} (h : δ[i]? = some (some (.ow v o))) : σ[i]? = some (some v) ∧ Own K B G H v o (F i) ∧ (F i).Nodup ∧ ∀ p ∈ F i, H0 p = none ∧ B.nb p := by
  obtain ⟨ov, h1, s⟩ := x.get h
  generalize F i = f at s ⊢
  cases s with
  | ow a b c => exact ⟨h1, a, b, c⟩
/-- one slot changes, and what is its own -/
theorem StF.put {F : Nat → List Addr} {i : Nat} {fi : List Addr} (x : StF K B H0 G H σ δ F) (hi : i < σ.length) (e : Ex G G2) (hk : ∀ p, Mu H p → B.nb p → p ∉ F i → H2 p = H p ∧ G2 p = G p) (s : SlotOk K B H0 G2 H2 ov od fi) (hf : ∀ p ∈ fi, H p = none ∨ p ∈ F i) :
    StF K B H0 G2 H2 (σ.set i ov) (δ.set i od) (fun j => if j = i then fi else F j) where
  len := by rw [List.length_set, List.length_set]; exact x.len
  at_ := fun j uv ud h1 h2 => by
    by_cases hj : i = j
    · subst hj
      have hl : i < σ.length := by have := (List.getElem?_eq_some_iff.mp h1).1; rwa [List.length_set] at this
      rw [List.getElem?_set_self hl] at h1
      rw [List.getElem?_set_self (by rw [← x.len]; exact hl)] at h2
      cases h1
      cases h2
      rw [if_pos rfl]
      exact s
    · rw [List.getElem?_set_ne hj] at h1 h2
      rw [if_neg (Ne.symm hj)]
      have q := x.at_ j uv ud h1 h2
      have hlj : j < σ.length := (List.getElem?_eq_some_iff.mp h1).1
      refine q.keep e fun p hp => ?_
      have a := q.at p hp
      exact hk p a.1 a.2.1 (x.dj j i hlj hi (Ne.symm hj) p hp)
  dj := fun a b ha hb hab p hp hq => by
    rw [List.length_set] at ha hb
    by_cases h1 : a = i
    · rw [if_pos h1] at hp
      have h2 : b ≠ i := fun z => hab (h1.trans z.symm)
      rw [if_neg h2] at hq
      obtain ⟨ud, hud⟩ : ∃ ud, δ[b]? = some ud := ⟨δ[b]'(by rw [← x.len]; exact hb), List.getElem?_eq_getElem _⟩
      obtain ⟨uv, huv, q⟩ := x.get hud
      rcases hf p hp with z | z
      · exact (q.at p hq).1.ne z
      · exact x.dj i b (h1 ▸ ha) hb (Ne.symm h2) p z hq
    · rw [if_neg h1] at hp
      by_cases h2 : b = i
      · rw [if_pos h2] at hq
        obtain ⟨ud, hud⟩ : ∃ ud, δ[a]? = some ud := ⟨δ[a]'(by rw [← x.len]; exact ha), List.getElem?_eq_getElem _⟩
        obtain ⟨uv, huv, q⟩ := x.get hud
        rcases hf p hq with z | z
        · exact (q.at p hp).1.ne z
        · exact x.dj a i ha (h2 ▸ hb) h1 p hp z
      · rw [if_neg h2] at hq
        exact x.dj a b ha hb hab p hp hq
end
section
variable {K : PySem.W.Frag} {B : Bx} {H0 G H G2 H2 : Hp} {σ : L2.St} {δ : DS}
theorem StF.gr {F : Nat → List Addr} (x : StF K B H0 G H σ δ F) (g : Gr K B G H G2 H2) : StF K B H0 G2 H2 σ δ F where
  len := x.len
  dj := x.dj
  at_ := fun i ov od h1 h2 => (x.at_ i ov od h1 h2).keep g.ex fun p hp => by
    have a := (x.at_ i ov od h1 h2).at p hp
    refine ⟨?_, g.old p a.1⟩
    cases q : H p with
    | none => exact absurd q a.1.ne
    | some o => exact g.keep p o a.2.1 q
theorem StOk.gr (x : StOk K B H0 G H σ δ) (g : Gr K B G H G2 H2) : StOk K B H0 G2 H2 σ δ := let ⟨F, y⟩ := x.ex; ⟨F, y.gr g⟩
theorem set_out {α : Type} {l : List α} {i : Nat} {a : α} (h : ¬ i < l.length) : l.set i a = l := by
  apply List.ext_getElem?
  intro j
  by_cases hj : i = j
  · subst hj
    rw [List.getElem?_eq_none_iff.mpr (by rw [List.length_set]; omega), List.getElem?_eq_none_iff.mpr (by omega)]
  · rw [List.getElem?_set_ne hj]
theorem StOk.put0 {i : Nat} {ov : Option V} {od : Option SD} (x : StOk K B H0 G H σ δ) (s : SlotOk K B H0 G H ov od []) : StOk K B H0 G H (σ.set i ov) (δ.set i od) := by
  by_cases hi : i < σ.length
  · obtain ⟨F, y⟩ := x.ex
    exact ⟨_, y.put hi (Ex.refl G) (fun _ _ _ _ => ⟨rfl, rfl⟩) s fun p hp => nomatch hp⟩
  · rw [set_out hi, set_out (by rw [← x.len]; exact hi)]
    exact x
/-- a slot is filled with data -/
theorem StOk.set {i : Nat} {v : V} {d : D} (x : StOk K B H0 G H σ δ) (h : Dat K B G v d) : StOk K B H0 G H (σ.set i (some v)) (δ.set i (some (.sh d))) := x.put0 (.sh h)
/-- less is known of a slot -/
theorem StOk.forget {i : Nat} {o : Option V} (x : StOk K B H0 G H σ δ) : StOk K B H0 G H (σ.set i o) (δ.set i none) := x.put0 .no
/-- a slot is filled with what is new and one's own -/
theorem StOk.setO {i : Nat} {v : V} {o : OD} {f : List Addr} (x : StOk K B H0 G H σ δ) (g : Gr K B G H G2 H2) (h : Own K B G2 H2 v o f) (nd : f.Nodup) (hf : ∀ p ∈ f, H p = none ∧ H0 p = none ∧ B.nb p) : StOk K B H0 G2 H2 (σ.set i (some v)) (δ.set i (some (.ow v o))) := by
  by_cases hi : i < σ.length
  · obtain ⟨F, y⟩ := x.ex
    refine ⟨_, y.put hi g.ex (fun p h1 h2 _ => ⟨?_, g.old p h1⟩) (.ow h nd fun p hp => (hf p hp).2) fun p hp => .inl (hf p hp).1⟩
    cases q : H p with
    | none => exact absurd q h1.ne
    | some o => exact g.keep p o h2 q
  · rw [set_out hi, set_out (by rw [← x.len]; exact hi)]
    exact x.gr g
end
end DL
namespace DL
open PySem PySem.Spec PyProof.Rows L2 Evl
abbrev DE := DS → (D → Prop) → Prop
abbrev DA := DS → (List D → Prop) → Prop
abbrev DT := DS → (Bool → Prop) → Prop
structure DEnds where
  nx : DS → Prop
  rt : D → Prop
  bk : DS → Prop := fun _ => False
  ct : DS → Prop := fun _ => False
  ro : OD → Prop := fun _ => False
abbrev DTS := DEnds → DS → Prop
abbrev DG := D → DS → (DS → Prop) → Prop
abbrev DGs := List D → DS → (DS → Prop) → Prop
def liftE (K : PySem.W.Frag) (B : Bx) (r : DE) : TE := fun σ H P => ∃ (H0 G : Hp) (δ : DS) (Q : D → Prop), Jn K B G H ∧ StOk K B H0 G H σ δ ∧ r δ Q ∧ ∀ d v G2 H2, Q d → Gr K B G H G2 H2 → Dat K B G2 v d → P v H2
/-- a new list that nobody knows -/
def liftF (K : PySem.W.Frag) (B : Bx) (r : DA) : TE := fun σ H P => ∃ (H0 G : Hp) (δ : DS) (Q : List D → Prop), Jn K B G H ∧ StOk K B H0 G H σ δ ∧ r δ Q ∧ ∀ ds p vs G2 H2, Q ds → Gr K B G H G2 H2 → H p = none → G2 p = none → H2 p = some (.lst vs) → Dats K B G2 vs ds → P (.ref p) H2
def liftA (K : PySem.W.Frag) (B : Bx) (r : DA) : TA := fun σ H P => ∃ (H0 G : Hp) (δ : DS) (Q : List D → Prop), Jn K B G H ∧ StOk K B H0 G H σ δ ∧ r δ Q ∧ ∀ ds vs G2 H2, Q ds → Gr K B G H G2 H2 → Dats K B G2 vs ds → P vs H2
def liftT (K : PySem.W.Frag) (B : Bx) (r : DT) : TT := fun σ H P => ∃ (H0 G : Hp) (δ : DS) (Q : Bool → Prop), Jn K B G H ∧ StOk K B H0 G H σ δ ∧ r δ Q ∧ ∀ b G2 H2, Q b → Gr K B G H G2 H2 → P b H2
structure Endy (K : PySem.W.Frag) (B : Bx) (G0 H0 Gc : Hp) (W : DEnds) (E : Ends) : Prop where
  nx : ∀ σ δ G H, W.nx δ → Gr K B G0 H0 G H → Ex Gc G → StOk K B H0 G H σ δ → E.nx σ H
  bk : ∀ σ δ G H, W.bk δ → Gr K B G0 H0 G H → Ex Gc G → StOk K B H0 G H σ δ → E.bk σ H
  ct : ∀ σ δ G H, W.ct δ → Gr K B G0 H0 G H → Ex Gc G → StOk K B H0 G H σ δ → E.ct σ H
  rt : ∀ d v G H, W.rt d → Gr K B G0 H0 G H → Ex Gc G → Dat K B G v d → E.rt v H
  ro : ∀ o v f G H, W.ro o → Gr K B G0 H0 G H → Ex Gc G → Own K B G H v o f → f.Nodup → (∀ p ∈ f, H0 p = none ∧ B.nb p) → E.rt v H
theorem Endy.up {K : PySem.W.Frag} {B : Bx} {G0 H0 Gc Gd : Hp} {W : DEnds} {E : Ends} (k : Endy K B G0 H0 Gc W E) (e : Ex Gc Gd) : Endy K B G0 H0 Gd W E :=
  ⟨fun σ δ G H a b c d => k.nx σ δ G H a b (e.trans c) d, fun σ δ G H a b c d => k.bk σ δ G H a b (e.trans c) d, fun σ δ G H a b c d => k.ct σ δ G H a b (e.trans c) d, fun d v G H a b c h => k.rt d v G H a b (e.trans c) h, fun o v f G H a b c h => k.ro o v f G H a b (e.trans c) h⟩
def liftS (K : PySem.W.Frag) (B : Bx) (t : DTS) : TS := fun E σ H => ∃ (G0 H0 G : Hp) (δ : DS) (W : DEnds), Gr K B G0 H0 G H ∧ StOk K B H0 G H σ δ ∧ t W δ ∧ Endy K B G0 H0 G W E
/-- only these slots are stored -/
def Upd (is : List Nat) (σ σ' : L2.St) : Prop := σ'.length = σ.length ∧ ∀ j : Nat, j ∉ is → σ'[j]? = σ[j]?
theorem Upd.refl (is : List Nat) (σ : L2.St) : Upd is σ σ := ⟨rfl, fun _ _ => rfl⟩
theorem Upd.trans {is js : List Nat} {σ σ' σ2 : L2.St} (a : Upd is σ σ') (b : Upd js σ' σ2) : Upd (is ++ js) σ σ2 :=
  ⟨b.1.trans a.1, fun j hj => (b.2 j fun z => hj (List.mem_append_right _ z)).trans (a.2 j fun z => hj (List.mem_append_left _ z))⟩
theorem wipe_at (σ : L2.St) (j : Nat) : ∀ vs : List Nat, (wipe σ vs)[j]? = if j ∈ vs ∧ j < σ.length then some none else σ[j]?
  | [] => by simp [wipe]
  | v :: vs => by
    unfold wipe
    by_cases e : v = j
    · subst e
      by_cases hl : v < σ.length
      · rw [List.getElem?_set_self (by rw [wipe_length]; exact hl), if_pos ⟨by simp, hl⟩]
      · rw [List.getElem?_eq_none_iff.mpr (by rw [List.length_set, wipe_length]; omega), if_neg (fun z => hl z.2), List.getElem?_eq_none_iff.mpr (by omega)]
    · rw [List.getElem?_set_ne e, wipe_at σ j vs]
      have : (j ∈ v :: vs) ↔ (j ∈ vs) := by simp [Ne.symm e]
      simp only [this]
theorem Upd.wipe {is vs : List Nat} {σ σ' : L2.St} (a : Upd is σ σ') (h : ∀ i ∈ is, i ∈ vs) : L2.wipe σ' vs = L2.wipe σ vs := by
  apply List.ext_getElem?
  intro j
  rw [wipe_at, wipe_at, a.1]
  by_cases hj : j ∈ vs
  · by_cases hl : j < σ.length
    · rw [if_pos ⟨hj, hl⟩, if_pos ⟨hj, hl⟩]
    · rw [if_neg (fun z => hl z.2), if_neg (fun z => hl z.2), List.getElem?_eq_none_iff.mpr (by rw [a.1]; omega), List.getElem?_eq_none_iff.mpr (by omega)]
  · rw [if_neg (fun z => hj z.1), if_neg (fun z => hj z.1)]
    exact a.2 j fun z => hj (h j z)
theorem wipe_wipe (σ : L2.St) (vs : List Nat) : wipe (wipe σ vs) vs = wipe σ vs := by
  apply List.ext_getElem?
  intro j
  rw [wipe_at, wipe_at, wipe_length]
  by_cases h : j ∈ vs ∧ j < σ.length
  · simp [h]
  · simp [h]
def liftG (K : PySem.W.Frag) (B : Bx) (is : List Nat) (g : DG) : TG := fun v σ H R => ∃ (H0 G : Hp) (δ : DS) (d : D) (Q : DS → Prop), Jn K B G H ∧ StOk K B H0 G H σ δ ∧ Dat K B G v d ∧ g d δ Q ∧ ∀ σ' δ', Q δ' → StOk K B H0 G H σ' δ' → Upd is σ σ' → R σ' H
def liftGs (K : PySem.W.Frag) (B : Bx) (is : List Nat) (g : DGs) : TGs := fun vs σ H R => ∃ (H0 G : Hp) (δ : DS) (ds : List D) (Q : DS → Prop), Jn K B G H ∧ StOk K B H0 G H σ δ ∧ Dats K B G vs ds ∧ g ds δ Q ∧ ∀ σ' δ', Q δ' → StOk K B H0 G H σ' δ' → Upd is σ σ' → R σ' H
abbrev PD (X : Cx) (B : Bx) (e : Expr) (r : DE) : Prop := PE X e (liftE X.K B r)
abbrev PF (X : Cx) (B : Bx) (e : Expr) (r : DA) : Prop := PE X e (liftF X.K B r)
abbrev PAD (X : Cx) (B : Bx) (es : List Expr) (r : DA) : Prop := PA X es (liftA X.K B r)
abbrev PTD (X : Cx) (B : Bx) (e : Expr) (r : DT) : Prop := PT X e (liftT X.K B r)
abbrev PWD (X : Cx) (B : Bx) (e : Expr) (r : DT) : Prop := PW X e (liftT X.K B r)
abbrev PSD (X : Cx) (B : Bx) (st : Stmt) (t : DTS) : Prop := PS X st (liftS X.K B t)
abbrev PSsD (X : Cx) (B : Bx) (st : List Stmt) (t : DTS) : Prop := PSs X st (liftS X.K B t)
abbrev PGD (X : Cx) (B : Bx) (e : Expr) (is : List Nat) (g : DG) : Prop := PG X e (liftG X.K B is g)
abbrev PGsD (X : Cx) (B : Bx) (es : List Expr) (is : List Nat) (g : DGs) : Prop := PGs X es (liftGs X.K B is g)
theorem pe_mono {X : Cx} {e : Expr} {t t' : TE} (h : PE X e t) (m : ∀ σ H Q, t' σ H Q → t σ H Q) : PE X e t' := ⟨fun pins s σ H Q I hw => h.run pins s σ H Q I (m σ H Q hw)⟩
theorem pt_mono {X : Cx} {e : Expr} {t t' : TT} (h : PT X e t) (m : ∀ σ H Q, t' σ H Q → t σ H Q) : PT X e t' := ⟨fun pins s σ H Q I hw => h.run pins s σ H Q I (m σ H Q hw)⟩
theorem pw_mono {X : Cx} {e : Expr} {t t' : TT} (h : PW X e t) (m : ∀ σ H Q, t' σ H Q → t σ H Q) : PW X e t' := ⟨fun wh pins s σ H Q I hw => h.run wh pins s σ H Q I (m σ H Q hw)⟩
theorem pa_mono {X : Cx} {e : List Expr} {t t' : TA} (h : PA X e t) (m : ∀ σ H Q, t' σ H Q → t σ H Q) : PA X e t' := ⟨fun pos pins s σ H Q I hw => h.run pos pins s σ H Q I (m σ H Q hw)⟩
theorem ps_mono {X : Cx} {e : Stmt} {t t' : TS} (h : PS X e t) (m : ∀ E σ H, t' E σ H → t E σ H) : PS X e t' := ⟨fun pins s σ H E I hw => h.run pins s σ H E I (m E σ H hw)⟩
theorem pss_mono {X : Cx} {e : List Stmt} {t t' : TS} (h : PSs X e t) (m : ∀ E σ H, t' E σ H → t E σ H) : PSs X e t' := ⟨fun pins s σ H E I hw => h.run pins s σ H E I (m E σ H hw)⟩
theorem pg_mono {X : Cx} {e : Expr} {t t' : TG} (h : PG X e t) (m : ∀ v σ H R, t' v σ H R → t v σ H R) : PG X e t' := ⟨fun pins s σ H v u R I r hw => h.run pins s σ H v u R I r (m v σ H R hw)⟩
theorem pgs_mono {X : Cx} {e : List Expr} {t t' : TGs} (h : PGs X e t) (m : ∀ v σ H R, t' v σ H R → t v σ H R) : PGs X e t' := ⟨fun pins s σ H v u R I r hw => h.run pins s σ H v u R I r (m v σ H R hw)⟩
section
variable {X : Cx} {B : Bx} {a b e : Expr} {es : List Expr} {ra rb r : DE} {pos : Pos}
def dVar (i : Nat) : DE := fun δ Q => match δ[i]? with
  | some (some (.sh d)) => Q d
  | _ => False
def dC (d : D) : DE := fun _ Q => Q d
theorem pd_of_var {i : Nat} (h : PE X e (tVar i)) : PD X B e (dVar i) := pe_mono h fun σ H P q => by
  obtain ⟨H0, G, δ, Q, j, st, hr, k⟩ := q
  unfold dVar at hr
  cases h1 : δ[i]? with
  | none => rw [h1] at hr; exact hr.elim
  | some o =>
    cases o with
    | none => rw [h1] at hr; exact hr.elim
    | some x =>
      cases x with
      | ow xs => rw [h1] at hr; exact hr.elim
      | nw _ _ _ => rw [h1] at hr; exact hr.elim
      | sh d =>
        rw [h1] at hr
        obtain ⟨v, hv, hd⟩ := st.sh i d h1
        exact ⟨v, hv, k d v G H hr (Gr.refl j) hd⟩
theorem pd_var (i : Nat) {x : Str} (hN : X.N[i]? = some x := by rfl) (hv : Vis X.env.scope x := by first | exact Or.inl rfl | exact Or.inr (Or.inl rfl) | exact Or.inr (Or.inr rfl)) (hd : (x == ("__debug__" : Str)) = false := by decide)
    (hcd : (x == ("__classdict__" : Str)) = false := by decide) : PD X B (.Name x pos) (dVar i) := pd_of_var (pe_var hN hv hd hcd)
theorem pd_of_c {v : V} {d : D} (h : PE X e (tC v)) (hd : ∀ G, Dat X.K B G v d) : PD X B e (dC d) := pe_mono h fun σ H P q => by
  obtain ⟨H0, G, δ, Q, j, st, hr, k⟩ := q
  exact k d v G H hr (Gr.refl j) (hd G)
theorem pd_int {i : Int} {j : Nat} : PD X B (.Constant (.int i) j pos) (dC (.int i)) := pd_of_c pe_int fun _ => .int i
theorem pd_bl {b : Bool} {j : Nat} : PD X B (.Constant (.bool b) j pos) (dC (.bl b)) := pd_of_c pe_bl fun _ => .bl b
theorem pd_non {j : Nat} : PD X B (.Constant .none j pos) (dC .non) := pd_of_c pe_non fun _ => .non
theorem pd_str {x : Str} {j : Nat} : PD X B (.Constant (.str x) j pos) (dC (.str x)) := pd_of_c pe_str fun _ => .str x
theorem pd_glob {x : Str} {v : V} {u : Value} {d : D} (hg : Gl X x) (hm : X.mg x = some u) (r : RelV v u) (hd : ∀ G, Dat X.K B G v d) (hdb : (x == ("__debug__" : Str)) = false := by decide) : PD X B (.Name x pos) (dC d) := pd_of_c (pe_glob hg hm r hdb) hd
def dNil : DA := fun _ Q => Q []
def dCons (r : DE) (ra : DA) : DA := fun δ Q => r δ fun x => ra δ fun xs => Q (x :: xs)
theorem pad_nil : PAD X B [] dNil := pa_mono pa_nil fun σ H P q => by
  obtain ⟨H0, G, δ, Q, j, st, hr, k⟩ := q
  exact k [] [] G H hr (Gr.refl j) .nil
theorem pad_cons {ra : DA} (h : PD X B e r) (ha : PAD X B es ra) (hs : starEach (e :: es) X.env = (false, eval e X.env) :: starEach es X.env := by rfl) : PAD X B (e :: es) (dCons r ra) := pa_mono (pa_cons h ha hs) fun σ H P q => by
  obtain ⟨H0, G, δ, Q, j, st, hr, k⟩ := q
  refine ⟨H0, G, δ, _, j, st, hr, fun d v G2 H2 q2 g2 h2 => ?_⟩
  refine ⟨H0, G2, δ, _, g2.j, st.gr g2, q2, fun ds vs G3 H3 q3 g3 h3 => ?_⟩
  exact k _ _ G3 H3 q3 (g2.trans g3) (.cons (h2.mono g3.ex) h3)
def dTup (ra : DA) : DE := fun δ Q => ra δ fun ds => match decide (ds.length ≤ 1000) with
  | true => Q (.tup ds)
  | false => False
def fLst (ra : DA) : DA := fun δ Q => ra δ fun ds => match decide (ds.length ≤ 1000) with
  | true => Q ds
  | false => False
theorem sz1000 {n : Nat} (h : n ≤ 1000) : n ≤ sizeLine := Nat.le_trans h (by decide)
theorem pd_tup {ra : DA} {k : Nat} (h : PAD X B es ra) : PD X B (.Tuple es k pos) (dTup ra) := pe_mono (pe_tup h) fun σ H P q => by
  obtain ⟨H0, G, δ, Q, j, st, hr, k⟩ := q
  refine ⟨H0, G, δ, _, j, st, hr, fun ds vs G2 H2 q2 g2 h2 => ?_⟩
  cases hz : decide (ds.length ≤ 1000) with
  | false => rw [hz] at q2; exact q2.elim
  | true =>
    rw [hz] at q2
    refine ⟨sz1000 (by rw [h2.len]; exact of_decide_eq_true hz), fun p hp => ?_⟩
    have g3 := Gr.new (o := .tup vs) g2.j hp
    exact k _ _ _ _ q2 (g2.trans g3) (.tup upd_same (h2.mono g3.ex))
theorem pf_lst {ra : DA} (h : PAD X B es ra) : PF X B (.List es pos) (fLst ra) := pe_mono (pe_lst h) fun σ H P q => by
  obtain ⟨H0, G, δ, Q, j, st, hr, k⟩ := q
  refine ⟨H0, G, δ, _, j, st, hr, fun ds vs G2 H2 q2 g2 h2 => ?_⟩
  cases hz : decide (ds.length ≤ 1000) with
  | false => rw [hz] at q2; exact q2.elim
  | true =>
    rw [hz] at q2
    refine ⟨sz1000 (by rw [h2.len]; exact of_decide_eq_true hz), fun p hp => ?_⟩
    have g3 := Gr.new0 (o := .lst vs) g2.j hp
    have hp0 : H p = none := by
      cases q : H p with
      | none => rfl
      | some o => exact absurd hp (g2.stay q)
    exact k _ _ _ _ _ q2 (g2.trans g3) hp0 (fresh_back g2.j.ex hp) upd_same h2
/-- what was free behind was free ahead -/
theorem Gr.free {K : PySem.W.Frag} {G H G2 H2 : Hp} (g : Gr K B G H G2 H2) {p : Addr} (hp : H2 p = none) : H p = none := by
  cases q : H p with
  | none => rfl
  | some o => exact absurd hp (g.stay q)
/-- what is free is no moving thing and younger than the anchor -/
theorem Gr.neB {K : PySem.W.Frag} {G H : Hp} (j : Jn K B G H) {p : Addr} (hp : H p = none) : B.nb p := by
  have st : B.st p := by
    refine ⟨fun e => ?_, fun t h e => ?_⟩
    · subst e
      obtain ⟨o, ho⟩ := j.at
      rw [hp] at ho
      cases ho
    · subst e
      obtain ⟨⟨ps, z, _⟩, _⟩ := j.xt.tb t h
      rw [hp] at z
      cases z
  refine ⟨st, fun u hu => ?_⟩
  cases q : u.2 p with
  | none => rfl
  | some o =>
    have z := j.xt.keep u hu p o st q
    rw [hp] at z
    cases z
/-- a new list as data -/
def dF (ra : DA) : DE := fun δ Q => ra δ fun ds => Q (.lst ds)
theorem pd_f {ra : DA} (h : PF X B e ra) : PD X B e (dF ra) := pe_mono h fun σ H P q => by
  obtain ⟨H0, G, δ, Q, j, st, hr, k⟩ := q
  refine ⟨H0, G, δ, _, j, st, hr, fun ds p vs G2 H2 q2 g2 hp gp h2 hd => ?_⟩
  exact k _ _ _ _ q2 (g2.frz hp gp (Gr.neB j hp) h2) (.lst upd_same (hd.mono (Ex.new gp)))
abbrev O2 := D → D → (D → Prop) → Prop
abbrev O1 := D → (D → Prop) → Prop
def rLift (K : PySem.W.Frag) (B : Bx) (r : O2) : R2 := fun x y H P => ∃ (G : Hp) (dx dy : D) (Q : D → Prop), Jn K B G H ∧ Dat K B G x dx ∧ Dat K B G y dy ∧ r dx dy Q ∧ ∀ d v G2 H2, Q d → Gr K B G H G2 H2 → Dat K B G2 v d → P v H2
def rLift1 (K : PySem.W.Frag) (B : Bx) (r : O1) : V → Hp → VK → Prop := fun x H P => ∃ (G : Hp) (dx : D) (Q : D → Prop), Jn K B G H ∧ Dat K B G x dx ∧ r dx Q ∧ ∀ d v G2 H2, Q d → Gr K B G H G2 H2 → Dat K B G2 v d → P v H2
def dOp (o : O2) (ra rb : DE) : DE := fun δ Q => ra δ fun x => rb δ fun y => o x y Q
def dUn (o : O1) (ra : DE) : DE := fun δ Q => ra δ fun x => o x Q
theorem lift2 {K : PySem.W.Frag} {o : O2} {σ : L2.St} {H : Hp} {P : VK} (q : liftE K B (dOp o ra rb) σ H P) : tOp (rLift K B o) (liftE K B ra) (liftE K B rb) σ H P := by
  obtain ⟨H0, G, δ, Q, j, st, hr, k⟩ := q
  refine ⟨H0, G, δ, _, j, st, hr, fun d v G2 H2 q2 g2 h2 => ?_⟩
  refine ⟨H0, G2, δ, _, g2.j, st.gr g2, q2, fun e u G3 H3 q3 g3 h3 => ?_⟩
  exact ⟨G3, d, e, Q, g3.j, h2.mono g3.ex, h3, q3, fun d' v' G4 H4 q4 g4 h4 => k d' v' G4 H4 q4 ((g2.trans g3).trans g4) h4⟩
theorem pd_bin {op : Operator} {o : O2} (h : OpR X (binaryOp op) (rLift X.K B o)) (ha : PD X B a ra) (hb : PD X B b rb) : PD X B (.BinOp a op b pos) (dOp o ra rb) := pe_mono (pe_op h ha hb) fun _ _ _ q => lift2 q
theorem pd_cmp {op : CmpOp} {o : O2} (h : OpR X (compareOp op) (rLift X.K B o)) (ha : PD X B a ra) (hb : PD X B b rb) (hm : behindInMarks op b = false) : PD X B (.Compare a [op] [b] pos) (dOp o ra rb) := pe_mono (pe_cmpR h ha hb hm) fun _ _ _ q => lift2 q
theorem pd_ix {o : O2} (h : IxR X (rLift X.K B o)) (ha : PD X B a ra) (hb : PD X B b rb) (hs : PlainIx b := by intro _ _; rfl) : PD X B (.Subscript a b pos) (dOp o ra rb) := pe_mono (pe_ix h ha hb hs) fun _ _ _ q => lift2 q
theorem pd_un {op : UnaryOp} {o : O1} (h : UnR X (unaryOp op) (rLift1 X.K B o)) (ha : PD X B a ra) : PD X B (.UnaryOp op a pos) (dUn o ra) := pe_mono (pe_un h ha) fun σ H P q => by
  obtain ⟨H0, G, δ, Q, j, st, hr, k⟩ := q
  refine ⟨H0, G, δ, _, j, st, hr, fun d v G2 H2 q2 g2 h2 => ?_⟩
  exact ⟨G2, d, Q, g2.j, h2, q2, fun d' v' G4 H4 q4 g4 h4 => k d' v' G4 H4 q4 (g2.trans g4) h4⟩
def tBl (r : DE) : DT := fun δ Q => r δ fun x => match x with
  | .bl b => Q b
  | _ => False
def tAn (r u : DT) : DT := fun δ Q => r δ fun b => if b = true then u δ Q else Q false
def tOrr (r u : DT) : DT := fun δ Q => r δ fun b => if b = true then Q true else u δ Q
def tNt (r : DT) : DT := fun δ Q => r δ fun b => Q (!b)
theorem ptd_val (h : PD X B e r) (he : ∀ whole, isTrue e X.env whole = (do let v ← whole; standAt e.pos; holding [v] (truthy v)) := by intro _; rfl) : PTD X B e (tBl r) := pt_mono (pt_val h he) fun σ H P q => by
  obtain ⟨H0, G, δ, Q, j, st, hr, k⟩ := q
  refine ⟨H0, G, δ, _, j, st, hr, fun d v G2 H2 q2 g2 h2 => ?_⟩
  cases h2 with
  | bl b => exact ⟨b, rfl, k b G2 H2 q2 g2⟩
  | _ => exact q2.elim
theorem ptd_cmp {op : CmpOp} {o : O2} (h : OpR X (compareOp op) (rLift X.K B o)) (ha : PD X B a ra) (hb : PD X B b rb) (hm : behindInMarks op b = false) : PTD X B (.Compare a [op] [b] pos) (tBl (dOp o ra rb)) := pt_mono (pt_cmpR h ha hb hm) fun σ H P q => by
  obtain ⟨H0, G, δ, Q, j, st, hr, k⟩ := q
  refine lift2 ⟨H0, G, δ, _, j, st, hr, fun d v G2 H2 q2 g2 h2 => ?_⟩
  cases h2 with
  | bl b => exact ⟨b, rfl, k b G2 H2 q2 g2⟩
  | _ => exact q2.elim
theorem ptd_not {t : DT} (h : PTD X B a t) : PTD X B (.UnaryOp .Not a pos) (tNt t) := pt_mono (pt_not h) fun σ H P q => by
  obtain ⟨H0, G, δ, Q, j, st, hr, k⟩ := q
  exact ⟨H0, G, δ, _, j, st, hr, fun b G2 H2 q2 g2 => k _ G2 H2 q2 g2⟩
theorem pwd_and1 {t : DT} (h : PTD X B a t) : PWD X B (.BoolOp .And [a] pos) t := pw_and1 h
theorem pwd_or1 {t : DT} (h : PTD X B a t) : PWD X B (.BoolOp .Or [a] pos) t := pw_or1 h
theorem lift_an {K : PySem.W.Frag} {t u : DT} {σ : L2.St} {H : Hp} {P : Bool → Hp → Prop} (q : liftT K B (tAn t u) σ H P) : L2.tAnd (liftT K B t) (liftT K B u) σ H P := by
  obtain ⟨H0, G, δ, Q, j, st, hr, k⟩ := q
  refine ⟨H0, G, δ, _, j, st, hr, fun c G2 H2 q2 g2 => ?_⟩
  cases c with
  | true => exact ⟨H0, G2, δ, Q, g2.j, st.gr g2, q2, fun c G3 H3 q3 g3 => k c G3 H3 q3 (g2.trans g3)⟩
  | false => exact k false G2 H2 q2 g2
theorem lift_or {K : PySem.W.Frag} {t u : DT} {σ : L2.St} {H : Hp} {P : Bool → Hp → Prop} (q : liftT K B (tOrr t u) σ H P) : L2.tOr (liftT K B t) (liftT K B u) σ H P := by
  obtain ⟨H0, G, δ, Q, j, st, hr, k⟩ := q
  refine ⟨H0, G, δ, _, j, st, hr, fun c G2 H2 q2 g2 => ?_⟩
  cases c with
  | false => exact ⟨H0, G2, δ, Q, g2.j, st.gr g2, q2, fun c G3 H3 q3 g3 => k c G3 H3 q3 (g2.trans g3)⟩
  | true => exact k true G2 H2 q2 g2
theorem pwd_and {t u : DT} {rest : List Expr} (h : PTD X B a t) (hu : PWD X B (.BoolOp .And (b :: rest) pos) u) : PWD X B (.BoolOp .And (a :: b :: rest) pos) (tAn t u) := pw_mono (pw_and h hu) fun _ _ _ q => lift_an q
theorem pwd_or {t u : DT} {rest : List Expr} (h : PTD X B a t) (hu : PWD X B (.BoolOp .Or (b :: rest) pos) u) : PWD X B (.BoolOp .Or (a :: b :: rest) pos) (tOrr t u) := pw_mono (pw_or h hu) fun _ _ _ q => lift_or q
def dAn (ra rb : DE) : DE := fun δ Q => ra δ fun x => match x with
  | .bl c => if c = true then rb δ Q else Q (.bl false)
  | _ => False
def dOr (ra rb : DE) : DE := fun δ Q => ra δ fun x => match x with
  | .bl c => if c = true then Q (.bl true) else rb δ Q
  | _ => False
def dNt (ra : DE) : DE := fun δ Q => ra δ fun x => match x with
  | .bl c => Q (.bl (!c))
  | _ => False
theorem pd_1 {op} (h : PD X B a ra) : PD X B (.BoolOp op [a] pos) ra := pe_one h
theorem pd_and {rest : List Expr} (ha : PD X B a ra) (hb : PD X B (.BoolOp .And (b :: rest) pos) rb) : PD X B (.BoolOp .And (a :: b :: rest) pos) (dAn ra rb) := pe_mono (pe_and ha hb) fun σ H P q => by
  obtain ⟨H0, G, δ, Q, j, st, hr, k⟩ := q
  refine ⟨H0, G, δ, _, j, st, hr, fun d v G2 H2 q2 g2 h2 => ?_⟩
  cases h2 with
  | bl c =>
    refine ⟨c, rfl, ?_⟩
    cases c with
    | true => exact ⟨H0, G2, δ, Q, g2.j, st.gr g2, q2, fun d v G3 H3 q3 g3 h3 => k d v G3 H3 q3 (g2.trans g3) h3⟩
    | false => exact k _ _ G2 H2 q2 g2 (.bl false)
  | _ => exact q2.elim
theorem pd_not (ha : PD X B a ra) : PD X B (.UnaryOp .Not a pos) (dNt ra) := pe_mono (pe_not ha) fun σ H P q => by
  obtain ⟨H0, G, δ, Q, j, st, hr, k⟩ := q
  refine ⟨H0, G, δ, _, j, st, hr, fun d v G2 H2 q2 g2 h2 => ?_⟩
  cases h2 with
  | bl c => exact ⟨c, rfl, k _ _ G2 H2 q2 g2 (.bl _)⟩
  | _ => exact q2.elim
def dIfE (t : DT) (ra rb : DE) : DE := fun δ Q => t δ fun b => if b = true then ra δ Q else rb δ Q
theorem pd_ifE {c : Expr} {t : DT} (hc : PTD X B c t) (ha : PD X B a ra) (hb : PD X B b rb) : PD X B (.IfExp c a b pos) (dIfE t ra rb) := pe_mono (pe_ifExp hc ha hb) fun σ H P q => by
  obtain ⟨H0, G, δ, Q, j, st, hr, k⟩ := q
  refine ⟨H0, G, δ, _, j, st, hr, fun c G2 H2 q2 g2 => ?_⟩
  cases c with
  | true => exact ⟨H0, G2, δ, Q, g2.j, st.gr g2, q2, fun d v G3 H3 q3 g3 h3 => k d v G3 H3 q3 (g2.trans g3) h3⟩
  | false => exact ⟨H0, G2, δ, Q, g2.j, st.gr g2, q2, fun d v G3 H3 q3 g3 h3 => k d v G3 H3 q3 (g2.trans g3) h3⟩
abbrev FD := List D → (D → Prop) → Prop
def cLift (K : PySem.W.Frag) (B : Bx) (S : FD) : List V → Hp → VK → Prop := fun vs H P => ∃ (G : Hp) (ds : List D) (Q : D → Prop), Jn K B G H ∧ Dats K B G vs ds ∧ S ds Q ∧ ∀ d v G2 H2, Q d → Gr K B G H G2 H2 → Dat K B G2 v d → P v H2
def spD (K : PySem.W.Frag) (B : Bx) (S : FD) : Sp := fun vs H P _ => cLift K B S vs H P
def dCall (S : FD) (ra : DA) : DE := fun δ Q => ra δ fun ds => S ds Q
theorem liftC {K : PySem.W.Frag} {S : FD} {ra : DA} {σ : L2.St} {H : Hp} {P : VK} (q : liftE K B (dCall S ra) σ H P) : liftA K B ra σ H fun vs H1 => cLift K B S vs H1 P := by
  obtain ⟨H0, G, δ, Q, j, st, hr, k⟩ := q
  refine ⟨H0, G, δ, _, j, st, hr, fun ds vs G2 H2 q2 g2 h2 => ?_⟩
  exact ⟨G2, ds, Q, g2.j, h2, q2, fun d v G3 H3 q3 g3 h3 => k d v G3 H3 q3 (g2.trans g3) h3⟩
theorem pd_call {CX : CXT} {k : Nat} {f : Addr} {fd : FuncData} {ps : List Str} {S : FD} {x : Str} {E : XK} {ra : DA} {fp : Pos} (F : FnOk X.prog X.w X.K X.mg X.base CX k f fd ps (spD X.K B S)) (hr : Room k X.A) (hg : Gl X x) (hm : X.mg x = some (.ref f)) (hk : PySem.W.keepIn X.K (.ref f) = true)
    (hb : Binds X.K fd ps []) (hx : Passes CX X E) (ha : PAD X B (e :: es) ra) (hd : (x == ("__debug__" : Str)) = false := by decide) (he : starEach (e :: es) X.env = (false, eval e X.env) :: starEach es X.env := by rfl) (hpl : (backTo pos (starEach es X.env)).any (·.1) = false := by rfl) : PD X B (.Call (.Name x fp) (e :: es) [] pos) (dCall S ra) :=
  pe_mono (pe_call F hr hg hm hk hb .nil hx ha hd he hpl) fun σ H P q => by
    have h := liftC q
    obtain ⟨H0, G, δ, Q, j, st, h1, k⟩ := h
    exact ⟨H0, G, δ, Q, j, st, h1, fun ds vs G2 H2 q2 g2 h2 => by
      show spD X.K B S (vs ++ []) H2 P E
      rw [List.append_nil]
      exact k ds vs G2 H2 q2 g2 h2⟩
theorem pd_callB {id : String} {S : FD} {x : Str} {ra : DA} {fp : Pos} (hc : CallR X (.builtin id) (cLift X.K B S)) (hg : Gl X x) (hm : X.mg x = none) (hv : bootBuiltins x = some (.builtin id)) (ha : PAD X B (e :: es) ra) (hn : x ≠ "__name__" := by decide) (hdb : (x == ("__debug__" : Str)) = false := by decide) (he : starEach (e :: es) X.env = (false, eval e X.env) :: starEach es X.env := by rfl) (hpl : (backTo pos (starEach es X.env)).any (·.1) = false := by rfl) :
    PD X B (.Call (.Name x fp) (e :: es) [] pos) (dCall S ra) := pe_mono (pe_callB hc hg hm hv ha hn hdb he hpl) fun _ _ _ q => liftC q
theorem pd_callTy {T : String} {S : FD} {x : Str} {ra : DA} {fp : Pos} (hc : CallR X (.type T) (cLift X.K B S)) (hg : Gl X x) (hm : X.mg x = none) (hv : bootBuiltins x = some (.type T)) (ha : PAD X B (e :: es) ra) (hn : x ≠ "__name__" := by decide) (hdb : (x == ("__debug__" : Str)) = false := by decide) (he : starEach (e :: es) X.env = (false, eval e X.env) :: starEach es X.env := by rfl) (hpl : (backTo pos (starEach es X.env)).any (·.1) = false := by rfl) :
    PD X B (.Call (.Name x fp) (e :: es) [] pos) (dCall S ra) := pe_mono (pe_callTy hc hg hm hv ha hn hdb he hpl) fun _ _ _ q => liftC q
end
section
variable {X : Cx} {B : Bx} {e : Expr} {st : Stmt} {rest : List Stmt} {r : DE} {t u : DTS} {pos : Pos}
def dNext : DTS := fun W δ => W.nx δ
def dSeq (t u : DTS) : DTS := fun W δ => t { W with nx := u W } δ
theorem psd_nil : PSsD X B [] dNext := pss_mono pss_nil fun E σ H q => by
  obtain ⟨G0, H0, G, δ, W, g, s, h, k⟩ := q
  exact k.nx σ δ G H h g (Ex.refl _) s
theorem psd_cons (h1 : PSD X B st t) (h2 : PSsD X B rest u) : PSsD X B (st :: rest) (dSeq t u) := pss_mono (pss_cons h1 h2) fun E σ H q => by
  obtain ⟨G0, H0, G, δ, W, g, s, h, k⟩ := q
  exact ⟨G0, H0, G, δ, _, g, s, h, ⟨fun σ' δ' G2 H2 q2 g2 e2 s2 => ⟨G0, H0, G2, δ', W, g2, s2, q2, k.up e2⟩, k.bk, k.ct, k.rt, k.ro⟩⟩
theorem psd_one (h1 : PSD X B st t) : PSsD X B [st] t := pss_mono (pss_one h1) fun _ _ _ q => q
/-- from an expression at a statement's place -/
theorem at_stmt {K : PySem.W.Frag} {G0 H0 G H : Hp} {σ : L2.St} {δ : DS} {P : VK} {Q : D → Prop} (g : Gr K B G0 H0 G H) (s : StOk K B H0 G H σ δ) (h : r δ Q)
    (k : ∀ d v G2 H2, Q d → Gr K B G0 H0 G2 H2 → Ex G G2 → StOk K B H0 G2 H2 σ δ → Dat K B G2 v d → P v H2) : liftE K B r σ H P :=
  ⟨H0, G, δ, Q, g.j, s, h, fun d v G2 H2 q2 g2 h2 => k d v G2 H2 q2 (g.trans g2) g2.ex (s.gr g2) h2⟩
def dRet (r : DE) : DTS := fun W δ => r δ W.rt
theorem psd_ret (h : PD X B e r) : PSD X B (.Return (some e) pos) (dRet r) := ps_mono (ps_ret h) fun E σ H q => by
  obtain ⟨G0, H0, G, δ, W, g, s, h, k⟩ := q
  exact at_stmt g s h fun d v G2 H2 q2 g2 e2 _ h2 => k.rt d v G2 H2 q2 g2 e2 h2
def dRetN : DTS := fun W _ => W.rt .non
def dDrop (r : DE) : DTS := fun W δ => r δ fun _ => W.nx δ
def dNever : DTS := fun _ _ => False
theorem psd_never : PSD X B st dNever := ps_mono ps_never fun E σ H q => by
  obtain ⟨G0, H0, G, δ, W, g, s, h, k⟩ := q
  exact h
def dBrk : DTS := fun W δ => W.bk δ
def dCnt : DTS := fun W δ => W.ct δ
def dIfS (c : DT) (t u : DTS) : DTS := fun W δ => c δ fun b => if b = true then t W δ else u W δ
theorem psd_if {c : Expr} {a b : List Stmt} {tc : DT} (hc : PTD X B c tc) (ha : PSsD X B a t) (hb : PSsD X B b u) : PSD X B (.If c a b pos) (dIfS tc t u) := ps_mono (ps_if hc ha hb) fun E σ H q => by
  obtain ⟨G0, H0, G, δ, W, g, s, h, k⟩ := q
  refine ⟨H0, G, δ, _, g.j, s, h, fun c G2 H2 q2 g2 => ?_⟩
  cases c with
  | true => exact ⟨G0, H0, G2, δ, W, g.trans g2, s.gr g2, q2, k.up g2.ex⟩
  | false => exact ⟨G0, H0, G2, δ, W, g.trans g2, s.gr g2, q2, k.up g2.ex⟩
def gN (i : Nat) : DG := fun d δ Q => Q (δ.set i (some (.sh d)))
theorem pgd_name {i : Nat} {x : Str} (hN : X.N.Nodup) (hi : X.N[i]? = some x) (hx : Loc X.env.scope x) (hf : X.fn x = true ∨ X.env.scope.names.lookup x = some .local := by first | exact .inl rfl | exact .inr rfl | assumption) : PGD X B (.Name x pos) [i] (gN i) :=
  pg_mono (pg_name hN hi hx hf) fun v σ H R q => by
    obtain ⟨H0, G, δ, d, Q, j, s, hd, h, k⟩ := q
    exact k _ _ h (s.set hd) ⟨List.length_set .., fun j hj => List.getElem?_set_ne (fun z => hj (by simp [z]))⟩
def gsNil : DGs := fun ds δ Q => match ds with
  | [] => Q δ
  | _ => False
def gsCons (g : DG) (gs : DGs) : DGs := fun ds δ Q => match ds with
  | d :: ds => g d δ fun δ' => gs ds δ' Q
  | [] => False
def dAsg (r : DE) (g : DG) : DTS := fun W δ => r δ fun d => g d δ W.nx
def dSet (i : Nat) (r : DE) : DTS := fun W δ => r δ fun d => W.nx (δ.set i (some (.sh d)))
theorem psd_set {i : Nat} {x : Str} {pos' : Pos} (hN : X.N.Nodup) (hi : X.N[i]? = some x) (hx : Loc X.env.scope x) (he : PD X B e r) (hs : swapsWith e (some (.Name x pos')) pos.line X.env = pure false := by rfl) (hf : X.fn x = true ∨ X.env.scope.names.lookup x = some .local := by first | exact .inl rfl | exact .inr rfl | assumption) :
    PSD X B (.Assign [.Name x pos'] e pos) (dSet i r) := ps_mono (ps_set hN hi hx he hs hf) fun E σ H q => by
  obtain ⟨G0, H0, G, δ, W, g, s, h, k⟩ := q
  exact at_stmt g s h fun d v G2 H2 q2 g2 e2 s2 h2 => k.nx _ _ G2 H2 q2 g2 e2 (s2.set h2)
end
end DL
namespace DL
open PySem PySem.Spec PyProof.Rows L2 Evl
section
variable {X : Cx} {B : Bx} {e : Expr} {es : List Expr} {st : Stmt} {rest : List Stmt} {r : DE} {t u : DTS} {pos : Pos}
theorem pgsd_nil : PGsD X B [] [] gsNil := pgs_mono pgs_nil fun v σ H R q => by
  obtain ⟨H0, G, δ, ds, Q, j, s, hd, h, k⟩ := q
  cases hd with
  | nil => exact ⟨rfl, k _ _ h s (Upd.refl _ _)⟩
  | cons _ _ => exact h.elim
theorem pgsd_cons {g : DG} {gs : DGs} {is js : List Nat} (h1 : PGD X B e is g) (h2 : PGsD X B es js gs) (hs : (assignEach (e :: es) X.env).map (·.2) = assign e X.env :: (assignEach es X.env).map (·.2) := by rfl) : PGsD X B (e :: es) (is ++ js) (gsCons g gs) := pgs_mono (pgs_cons h1 h2 hs) fun v σ H R q => by
  obtain ⟨H0, G, δ, ds, Q, j, s, hd, h, k⟩ := q
  cases hd with
  | nil => exact h.elim
  | cons h3 h4 =>
    refine ⟨_, _, rfl, H0, G, δ, _, _, j, s, h3, h, fun σ' δ' q2 s2 u2 => ?_⟩
    exact ⟨H0, G, δ', _, Q, j, s2, h4, q2, fun σ3 δ3 q3 s3 u3 => k σ3 δ3 q3 s3 (u2.trans u3)⟩
def gT (n : Nat) (gs : DGs) : DG := fun d δ Q => match d with
  | .tup ds => match decide (ds.length = n) with
    | true => gs ds δ Q
    | false => False
  | _ => False
theorem pgd_tup {k n : Nat} {gs : DGs} {is : List Nat} (hc : X.calm = true) (h : PGsD X B es is gs) (hn : (assignEach es X.env).length = n := by rfl) (hst : (assignEach es X.env).findIdx? (·.1) = none := by rfl) : PGD X B (.Tuple es k pos) is (gT n gs) := pg_mono (pg_tup hc h hn hst) fun v σ H R q => by
  obtain ⟨H0, G, δ, d, Q, j, s, hd, h, k⟩ := q
  cases hd with
  | tup h3 h4 =>
    rename_i a xs ds
    have h : (match decide (ds.length = n) with | true => gs ds δ Q | false => False) := h
    cases hz : decide (ds.length = n) with
    | false => rw [hz] at h; exact h.elim
    | true =>
      rw [hz] at h
      exact ⟨a, xs, rfl, tx j.ex h3, h4.len.trans (of_decide_eq_true hz), H0, G, δ, ds, Q, j, s, h4, h, k⟩
  | _ => exact h.elim
/-- a, b = x, y -/
def dPar (i j : Nat) (ra : DA) : DTS := fun W δ => ra δ fun ds => match ds with
  | [d, e] => W.nx ((δ.set i (some (.sh d))).set j (some (.sh e)))
  | _ => False
theorem psd_par {i j : Nat} {x y : Str} {a b : Expr} {ra : DA} {px py pt : Pos} {kt k2 pt2} (hc : X.calm = true) (hN : X.N.Nodup) (hi : X.N[i]? = some x) (hj : X.N[j]? = some y) (hij : i ≠ j)
    (hx : X.env.scope.names.lookup x = some .local) (hy : X.env.scope.names.lookup y = some .local) (ha : PAD X B [a, b] ra)
    (hw : swappedStores [.Tuple [.Name x px, .Name y py] kt pt] (.Tuple [a, b] k2 pt2) X.env = pure (some [x, y]))
    (hs : swapsWithSole [.Tuple [.Name x px, .Name y py] kt pt] (.Tuple [a, b] k2 pt2) pos.line X.env = pure false := by rfl) :
    PSD X B (.Assign [.Tuple [.Name x px, .Name y py] kt pt] (.Tuple [a, b] k2 pt2) pos) (dPar i j ra) := ps_mono (ps_par hc hN hi hj hij hx hy ha hw hs) fun E σ H q => by
  obtain ⟨G0, H0, G, δ, W, g, s, h, k⟩ := q
  refine ⟨H0, G, δ, _, g.j, s, h, fun ds vs G2 H2 q2 g2 h2 => ?_⟩
  cases h2 with
  | nil => exact q2.elim
  | cons h3 h4 =>
    cases h4 with
    | nil => exact q2.elim
    | cons h5 h6 =>
      cases h6 with
      | nil => exact ⟨_, _, rfl, k.nx _ _ G2 H2 q2 (g.trans g2) g2.ex (((s.gr g2).set h3).set h5)⟩
      | cons _ _ => exact q2.elim
structure ItD (K : PySem.W.Frag) (B : Bx) (J : It) (G : Hp) (ds : List D) : Prop where
  go : ∀ i G1 H, Ex G G1 → Jn K B G1 H → i < ds.length → J.go i H
  yld : ∀ (i : Nat) G1 H x H' d, Ex G G1 → Jn K B G1 H → J.yld i H x H' → ds[i]? = some d → ∃ G2, Gr K B G1 H G2 H' ∧ Dat K B G2 x d
  stop : ∀ i G1 H, Ex G G1 → Jn K B G1 H → ds.length ≤ i → J.stop i H
def liftI (K : PySem.W.Frag) (B : Bx) (r : DA) : TI := fun σ H R => ∃ (H0 G : Hp) (δ : DS) (Q : List D → Prop), Jn K B G H ∧ StOk K B H0 G H σ δ ∧ r δ Q ∧ ∀ ds J G2 H2, Q ds → Gr K B G H G2 H2 → ItD K B J G2 ds → R J H2
abbrev PID (X : Cx) (B : Bx) (tg e : Expr) (r : DA) : Prop := PI X tg e (liftI X.K B r)
def chars (x : Str) : List D := x.cps.toList.map fun c => .str ⟨#[c]⟩
def iSeq (r : DE) : DA := fun δ Q => r δ fun d => match d with
  | .lst xs => Q xs
  | .tup xs => Q xs
  | .str x => Q (chars x)
  | _ => False
theorem itd_list {K : PySem.W.Frag} {G : Hp} {a : Addr} {xs : List V} {ds : List D} (h : G a = some (.lst xs)) (hd : Dats K B G xs ds) : ItD K B (Itl K a) G ds where
  go := fun i G1 H e j hi => ⟨xs, xs[i]'(by rw [hd.len]; exact hi), sq_of (j.ex _ _ (e _ _ h)), by simp⟩
  yld := fun i G1 H x H' d e j y hi => by
    obtain ⟨rfl, y⟩ := y
    have := y xs (sq_of (j.ex _ _ (e _ _ h)))
    obtain ⟨u, h1, h2⟩ := hd.get hi
    rw [this] at h1
    cases h1
    exact ⟨G1, Gr.refl j, h2.mono e⟩
  stop := fun i G1 H e j hi => ⟨xs, sq_of (j.ex _ _ (e _ _ h)), by rw [hd.len]; exact hi⟩
theorem itd_tup {K : PySem.W.Frag} {G : Hp} {a : Addr} {xs : List V} {ds : List D} (h : SqT K G a xs) (hd : Dats K B G xs ds) : ItD K B (Itt K a) G ds where
  go := fun i G1 H e j hi => ⟨xs, xs[i]'(by rw [hd.len]; exact hi), ex_t (e.trans j.ex) h, by simp⟩
  yld := fun i G1 H x H' d e j y hi => by
    obtain ⟨rfl, y⟩ := y
    have := y xs (ex_t (e.trans j.ex) h)
    obtain ⟨u, h1, h2⟩ := hd.get hi
    rw [this] at h1
    cases h1
    exact ⟨G1, Gr.refl j, h2.mono e⟩
  stop := fun i G1 H e j hi => ⟨xs, ex_t (e.trans j.ex) h, by rw [hd.len]; exact hi⟩
theorem itd_str {K : PySem.W.Frag} {G : Hp} {x : Str} : ItD K B (Its x) G (chars x) where
  go := fun i G1 H e j hi => by
    have : (chars x).length = x.cps.size := by simp [chars]
    show i < x.cps.size
    omega
  yld := fun i G1 H v H' d e j y hi => by
    obtain ⟨rfl, c, h1, h2⟩ := y
    subst h2
    have : d = .str ⟨#[c]⟩ := by
      unfold chars at hi
      rw [List.getElem?_map, Array.getElem?_toList, h1] at hi
      exact (Option.some.inj hi).symm
    subst this
    exact ⟨G1, Gr.refl j, .str _⟩
  stop := fun i G1 H e j hi => by
    have : (chars x).length = x.cps.size := by simp [chars]
    show x.cps.size ≤ i
    omega
theorem pid_seq {tg : Expr} (he : PD X B e r) : PID X B tg e (iSeq r) := by
  refine ⟨fun pins s σ H R I h => ?_⟩
  obtain ⟨H0, G, δ, Q, j, st, hr, k⟩ := h
  refine thn (he.run pins s σ H (fun x H1 => ∃ G2 d, (match d with | D.lst xs => Q xs | D.tup xs => Q xs | D.str x => Q (chars x) | _ => False) ∧ Gr X.K B G H G2 H1 ∧ Dat X.K B G2 x d) I ⟨H0, G, δ, _, j, st, hr, fun d v G2 H2 q2 g2 h2 => ⟨G2, d, q2, g2, h2⟩⟩) fun v s1 ⟨x, H1, I1, r1, q1⟩ => ?_
  obtain ⟨G2, d, q2, g2, h2⟩ := q1
  cases h2 with
  | @lst a xs ds h3 h4 =>
    cases r1
    obtain ⟨its, rv, p, hz⟩ := I1.list (sq_of (g2.j.ex _ _ h3))
    exact wpAny_pyIter_list p.isList (pi_one (tk := s1.toks) I1 _ (turn_list a _) ⟨_, Heap.get?_push_size _ rfl, rfl, rfl⟩ (k ds _ G2 H1 q2 g2 (itd_list h3 h4)))
  | @tup a xs ds h3 h4 =>
    cases r1
    obtain ⟨its, rv, p, hz⟩ := I1.tuple (tx g2.j.ex h3)
    exact wpAny_pyIter_tuple (show s1.heap.IsTuple a its.toArray from p) (pi_one (tk := s1.toks) I1 _ (turn_tuple a _) ⟨_, Heap.get?_push_size _ rfl, rfl, rfl⟩ (k ds _ G2 H1 q2 g2 (itd_tup (st_of h3) h4)))
  | str x =>
    obtain ⟨t, rfl⟩ := r1
    cases ha : x.cps.all (· < 128)
    · exact wpAny_pyIter_wide ha (pi_one (tk := s1.toks) I1 _ (turn_str _ x t "str_iterator" (.inr rfl)) ⟨_, Heap.get?_push_size _ rfl, rfl, rfl⟩ (k _ _ G2 H1 q2 g2 itd_str))
    · exact wpAny_pyIter_ascii ha (pi_one (tk := s1.toks) I1 _ (turn_str _ x t "str_ascii_iterator" (.inl rfl)) ⟨_, Heap.get?_push_size _ rfl, rfl, rfl⟩ (k _ _ G2 H1 q2 g2 itd_str))
  | _ => exact q2.elim
def ups (lo : Int) (n : Nat) : List D := (List.range n).map fun (i : Nat) => .int (lo + (i : Int))
theorem itd_range {K : PySem.W.Frag} {G : Hp} {lo : Int} {n : Nat} : ItD K B (Itr lo n) G (ups lo n) where
  go := fun i G1 H e j hi => by
    have : (ups lo n).length = n := by simp [ups]
    show i < n
    omega
  yld := fun i G1 H v H' d e j y hi => by
    obtain ⟨rfl, rfl⟩ := y
    have hl : (ups lo n).length = n := by simp [ups]
    have hi' : i < n := by
      have := (List.getElem?_eq_some_iff.mp hi).1
      omega
    unfold ups at hi
    rw [List.getElem?_map, List.getElem?_range hi'] at hi
    cases hi
    exact ⟨G1, Gr.refl j, .int _⟩
  stop := fun i G1 H e j hi => by
    have : (ups lo n).length = n := by simp [ups]
    show n ≤ i
    omega
def iR1 (ra : DA) : DA := fun δ Q => ra δ fun ds => match ds with
  | [.int n] => (-(2 ^ 62) ≤ n ∧ n < 2 ^ 62) ∧ Q (ups 0 n.toNat)
  | _ => False
def iR2 (ra : DA) : DA := fun δ Q => ra δ fun ds => match ds with
  | [.int i, .int j] => (-(2 ^ 62) ≤ i ∧ i < 2 ^ 62 ∧ -(2 ^ 62) ≤ j ∧ j < 2 ^ 62) ∧ Q (ups i (j - i).toNat)
  | _ => False
theorem pid_r1 {tg a : Expr} {ra : DA} {p : Pos} (hg : Gl X "range") (hm : X.mg "range" = none) (ha : PAD X B [a] ra) (hs : starEach [a] X.env = [(false, eval a X.env)] := by rfl) : PID X B tg (.Call (.Name "range" p) [a] [] pos) (iR1 ra) :=
  ⟨fun pins s σ H R I h => (pi_range1 (tg := tg) hg hm ha hs).run pins s σ H R I (by
    obtain ⟨H0, G, δ, Q, j, st, hr, k⟩ := h
    refine ⟨H0, G, δ, _, j, st, hr, fun ds vs G2 H2 q2 g2 h2 => ?_⟩
    cases h2 with
    | nil => exact q2.elim
    | cons h3 h4 =>
      cases h3 with
      | int n =>
        cases h4 with
        | nil => exact ⟨n, rfl, q2.1.1, q2.1.2, k _ _ G2 H2 q2.2 g2 itd_range⟩
        | cons _ _ => exact q2.elim
      | _ => exact q2.elim)⟩
theorem pid_r2 {tg a b : Expr} {ra : DA} {p : Pos} (hg : Gl X "range") (hm : X.mg "range" = none) (ha : PAD X B [a, b] ra) (hs : starEach [a, b] X.env = [(false, eval a X.env), (false, eval b X.env)] := by rfl) (hs2 : starEach [b] X.env = [(false, eval b X.env)] := by rfl) : PID X B tg (.Call (.Name "range" p) [a, b] [] pos) (iR2 ra) :=
  ⟨fun pins s σ H R I h => (pi_range2 (tg := tg) hg hm ha hs hs2).run pins s σ H R I (by
    obtain ⟨H0, G, δ, Q, j, st, hr, k⟩ := h
    refine ⟨H0, G, δ, _, j, st, hr, fun ds vs G2 H2 q2 g2 h2 => ?_⟩
    cases h2 with
    | nil => exact q2.elim
    | cons h3 h4 =>
      cases h3 with
      | int n =>
        cases h4 with
        | nil => exact q2.elim
        | cons h5 h6 =>
          cases h5 with
          | int m =>
            cases h6 with
            | nil => exact ⟨n, m, rfl, q2.1, k _ _ G2 H2 q2.2 g2 itd_range⟩
            | cons _ _ => exact q2.elim
          | _ => exact q2.elim
      | _ => exact q2.elim)⟩
def forD (g : DG) (tb : DTS) (W : DEnds) : List D → DS → Prop
  | [], δ => W.nx δ
  | d :: ds, δ => g d δ fun δ' => tb { W with nx := forD g tb W ds, ct := forD g tb W ds, bk := W.nx } δ'
def dFor (ri : DA) (g : DG) (tb : DTS) : DTS := fun W δ => ri δ fun ds => forD g tb W ds δ
theorem psd_for {tg iter : Expr} {body : List Stmt} {ri : DA} {g : DG} {is : List Nat} {tb : DTS} (hp : PassesOwn (model X.prog X.w) X.A X.env X.xe) (hc : X.calm = true) (hi : PID X B tg iter ri) (hg : PGD X B tg is g) (hb : PSsD X B body tb)
    (hs : ∀ x, foldedSetIterable iter X.env x = pure x := by intro _; rfl) : PSD X B (.For tg iter body [] pos) (dFor ri g tb) := ps_mono (ps_for hp hc hi hg hb hs) fun E σ H q => by
  obtain ⟨G0, H0, G, δ, W, g0, s, h, k⟩ := q
  refine ⟨H0, G, δ, _, g0.j, s, h, fun ds J G2 H2 q2 g2 it => ?_⟩
  refine ⟨fun i m σ H => i + m = ds.length ∧ ∃ G' δ', Ex G2 G' ∧ Gr X.K B G0 H0 G' H ∧ StOk X.K B H0 G' H σ δ' ∧ forD g tb W (ds.drop i) δ', ⟨ds.length, by omega, G2, δ, Ex.refl _, g0.trans g2, s.gr g2, q2⟩, fun i m σ H hw => ?_⟩
  obtain ⟨em, G', δ', ex, gr, st, hf⟩ := hw
  by_cases hlt : i < ds.length
  · refine .inr ⟨it.go i G' H ex gr.j hlt, fun σ1 H1 => ∃ G3 δ3, Ex G2 G3 ∧ Gr X.K B G0 H0 G3 H1 ∧ StOk X.K B H0 G3 H1 σ1 δ3 ∧ forD g tb W (ds.drop (i + 1)) δ3, fun σ1 H1 hn => ⟨m - 1, by omega, by omega, hn⟩, fun x H1 hy => ?_⟩
    have hd : ds[i]? = some ds[i] := List.getElem?_eq_getElem hlt
    obtain ⟨G3, g3, hx⟩ := it.yld i G' H x H1 _ ex gr.j hy hd
    rw [List.drop_eq_getElem_cons hlt] at hf
    refine ⟨H0, G3, δ', ds[i], _, g3.j, st.gr g3, hx, hf, fun σ2 δ2 q3 s3 _ => ?_⟩
    refine ⟨G0, H0, G3, δ2, _, gr.trans g3, s3, q3, ⟨?_, ?_, ?_, ?_, ?_⟩⟩
    · exact fun σ4 δ4 G4 H4 q4 g4 e4 s4 => ⟨G4, δ4, (ex.trans g3.ex).trans e4, g4, s4, q4⟩
    · exact fun σ4 δ4 G4 H4 q4 g4 e4 s4 => k.nx _ _ _ _ q4 g4 (g2.ex.trans ((ex.trans g3.ex).trans e4)) s4
    · exact fun σ4 δ4 G4 H4 q4 g4 e4 s4 => ⟨G4, δ4, (ex.trans g3.ex).trans e4, g4, s4, q4⟩
    · exact fun d v G4 H4 q4 g4 e4 h4 => k.rt _ _ _ _ q4 g4 (g2.ex.trans ((ex.trans g3.ex).trans e4)) h4
    · exact fun o v f G4 H4 q4 g4 e4 h4 => k.ro _ _ _ _ _ q4 g4 (g2.ex.trans ((ex.trans g3.ex).trans e4)) h4
  · have e : i = ds.length := by omega
    subst e
    rw [List.drop_length] at hf
    exact .inl ⟨it.stop _ G' H ex gr.j (Nat.le_refl _), k.nx _ _ _ _ hf gr (g2.ex.trans ex) st⟩
end
end DL
namespace DL
open PySem PySem.Spec PyProof.Rows L2 Evl
def wipeD (δ : DS) : List Nat → DS
  | [] => δ
  | v :: vs => (wipeD δ vs).set v none
theorem StOk.wipe {K : PySem.W.Frag} {B : Bx} {H0 G H : Hp} {σ : L2.St} {δ : DS} (x : StOk K B H0 G H σ δ) : ∀ vs : List Nat, StOk K B H0 G H (L2.wipe σ vs) (wipeD δ vs)
  | [] => x
  | _ :: vs => (StOk.wipe x vs).forget
def lcD (g : DG) (tt : DT) (te : DE) (δ : DS) (Q : List D → Prop) : List D → List D → Prop
  | [], acc => Q acc
  | d :: ds, acc => g d δ fun δ' => tt δ' fun b => if b = true then te δ' fun y => lcD g tt te δ Q ds (acc ++ [y]) else lcD g tt te δ Q ds acc
def fLc (ri : DA) (g : DG) (tt : DT) (te : DE) (vs : List Nat) : DA := fun δ Q => ri δ fun ds => ds.length ≤ sizeLine ∧ lcD g tt te (wipeD δ vs) Q ds []
section
variable {X : Cx} {B : Bx}
abbrev PTsD (X : Cx) (B : Bx) (es : List Expr) (r : DT) : Prop := PTs X es (liftT X.K B r)
def dYes : DT := fun _ Q => Q true
theorem ptsd_nil : PTsD X B [] dYes := ⟨fun pins s σ H Q I h => pts_nil.run pins s σ H Q I (by
  obtain ⟨H0, G, δ, Q', j, st, hr, k⟩ := h
  exact k true G H hr (Gr.refl j))⟩
theorem ptsd_one {c : Expr} {t : DT} (h : PTD X B c t) : PTsD X B [c] t := pts_one h
theorem lift_lc {K : PySem.W.Frag} {ri : DA} {g : DG} {is : List Nat} {tt : DT} {te : DE} {vs : List Nat} {σ : L2.St} {H : Hp} {P : VK} (hv : ∀ i ∈ is, i ∈ vs) (q : liftF K B (fLc ri g tt te vs) σ H P) :
    tLc (liftI K B ri) (liftG K B is g) (liftT K B tt) (liftE K B te) vs σ H P := by
  obtain ⟨H0, G, δ, Q, j, st, hr, k⟩ := q
  refine ⟨H0, G, δ, _, j, st, hr, fun ds J G2 H2 q2 g2 it p hp => ?_⟩
  obtain ⟨hz, q2⟩ := q2
  have nb : B.nb p := Gr.neB g2.j hp
  have gp : G2 p = none := fresh_back g2.j.ex hp
  have st2 := (st.gr g2)
  refine ⟨fun i m H' => i + m = ds.length ∧ ∃ G' acc accD, Gr K B G2 H2 G' H' ∧ G' p = none ∧ H' p = some (.lst acc) ∧ Dats K B G' acc accD ∧ acc.length ≤ i ∧ lcD g tt te (wipeD δ vs) Q (ds.drop i) accD,
    ⟨ds.length, by omega, G2, [], [], Gr.new0 g2.j hp, gp, upd_same, .nil, Nat.le_refl _, q2⟩, fun i m H' hw => ?_⟩
  obtain ⟨em, G', acc, accD, gr, gp', hp', ha, hl, hf⟩ := hw
  by_cases hlt : i < ds.length
  · refine .inr ⟨it.go i G' H' gr.ex gr.j hlt, fun H1 => ∃ G1 acc accD, Gr K B G2 H2 G1 H1 ∧ G1 p = none ∧ H1 p = some (.lst acc) ∧ Dats K B G1 acc accD ∧ acc.length ≤ i + 1 ∧ lcD g tt te (wipeD δ vs) Q (ds.drop (i + 1)) accD, fun H1 hn => ⟨m - 1, by omega, by omega, hn⟩, fun x H1 hy => ?_⟩
    have hd : ds[i]? = some ds[i] := List.getElem?_eq_getElem hlt
    obtain ⟨G3, g3, hx⟩ := it.yld i G' H' x H1 _ gr.ex gr.j hy hd
    rw [List.drop_eq_getElem_cons hlt] at hf
    have hpn : Mu H' p := ⟨_, hp', nl rfl⟩
    refine ⟨H0, G3, wipeD δ vs, ds[i], _, g3.j, (st2.gr (gr.trans g3)).wipe vs, hx, hf, fun σ2 δ2 q3 s3 u3 => ?_⟩
    refine ⟨by rw [u3.wipe hv, wipe_wipe], H0, G3, δ2, _, g3.j, s3, q3, fun b G4 H4 q4 g4 => ?_⟩
    have g34 := g3.trans g4
    cases b with
    | false =>
      exact ⟨G4, acc, accD, gr.trans g34, by rw [g34.old p hpn]; exact gp', g34.keep p _ nb hp', ha.mono g34.ex, Nat.le_succ_of_le hl, q4⟩
    | true =>
      refine ⟨H0, G4, δ2, _, g4.j, s3.gr g4, q4, fun y u G5 H5 q5 g5 h5 => ?_⟩
      have g35 := g34.trans g5
      have gp5 : G5 p = none := by rw [g35.old p hpn]; exact gp'
      refine ⟨acc, g35.keep p _ nb hp', by omega, G5, _, _, (gr.trans g35).own hp gp5 nb, gp5, upd_same, (ha.mono g35.ex).append (.cons h5 .nil), ?_, q5⟩
      rw [List.length_append]
      show acc.length + 1 ≤ i + 1
      omega
  · have e : i = ds.length := by omega
    subst e
    rw [List.drop_length] at hf
    exact .inl ⟨it.stop _ G' H' gr.ex gr.j (Nat.le_refl _), k _ p acc G' H' hf (g2.trans gr) (g2.free hp) gp' hp' ha⟩
theorem pf_lc {elt tg iter : Expr} {ifs : List Expr} {scope : Scope} {own : List (Str × Nat)} {pos : Pos} {ri : DA} {g : DG} {is : List Nat} {tt : DT} {te : DE} (hc : X.calm = true) (hN : X.N.Nodup) (hi : PID X B tg iter ri) (ok : BlkOk X.N X.env.scope scope own) (hv : ∀ i ∈ is, i ∈ own.map (·.2))
    (hg : ∀ (s : Shared) (H : Hp) (C : Addr) (cl : List (Str × Addr)) (fp : List Addr), PGD (X.blk s H scope (compEnvC scope cl C X.env) fp) B tg is g) (ht : ∀ (s : Shared) (H : Hp) (C : Addr) (cl : List (Str × Addr)) (fp : List Addr), PTsD (X.blk s H scope (compEnvC scope cl C X.env) fp) B ifs tt)
    (he : ∀ (s : Shared) (H : Hp) (C : Addr) (cl : List (Str × Addr)) (fp : List Addr), PD (X.blk s H scope (compEnvC scope cl C X.env) fp) B elt te) (hs : ∀ x, foldedSetIterable iter X.env x = pure x := by intro _; rfl) :
    PF X B (.ListComp elt [⟨tg, iter, ifs, 0⟩] scope pos) (fLc ri g tt te (own.map (·.2))) := pe_mono (pe_lc hc hN hi ok hg ht he hs) fun _ _ _ q => lift_lc hv q
/-- y = [..] -/
theorem psd_setLc {i : Nat} {y : Str} {py : Pos} {elt tg iter : Expr} {ifs : List Expr} {scope : Scope} {own : List (Str × Nat)} {pos spos : Pos} {ri : DA} {g : DG} {is : List Nat} {tt : DT} {te : DE} (hc : X.calm = true) (hN : X.N.Nodup) (hy : X.N[i]? = some y) (hyl : X.env.scope.names.lookup y = some .local)
    (hsw : swapsWith (.ListComp elt [⟨tg, iter, ifs, 0⟩] scope pos) (some (.Name y py)) spos.line X.env = pure true) (hi : PID X B tg iter ri) (ok : BlkOk X.N X.env.scope scope own) (hv : ∀ i ∈ is, i ∈ own.map (·.2))
    (hg : ∀ (s : Shared) (H : Hp) (C : Addr) (cl : List (Str × Addr)) (fp : List Addr), PGD (X.blk s H scope (compEnvC scope cl C X.env) fp) B tg is g) (ht : ∀ (s : Shared) (H : Hp) (C : Addr) (cl : List (Str × Addr)) (fp : List Addr), PTsD (X.blk s H scope (compEnvC scope cl C X.env) fp) B ifs tt)
    (he : ∀ (s : Shared) (H : Hp) (C : Addr) (cl : List (Str × Addr)) (fp : List Addr), PD (X.blk s H scope (compEnvC scope cl C X.env) fp) B elt te) (hs : ∀ x, foldedSetIterable iter X.env x = pure x := by intro _; rfl) :
    PSD X B (.Assign [.Name y py] (.ListComp elt [⟨tg, iter, ifs, 0⟩] scope pos) spos) (dSet i (dF (fLc ri g tt te (own.map (·.2))))) := ps_mono (ps_setLc hc hN hy hyl hsw hi ok hg ht he hs) fun E σ H q => by
  obtain ⟨G0, H0, G, δ, W, g0, s, h, k⟩ := q
  refine lift_lc hv ⟨H0, G, δ, _, g0.j, s, h, fun ds p vs G2 H2 q2 g2 hp gp h2 hd => ?_⟩
  have g3 := g2.frz hp gp (Gr.neB g0.j hp) h2
  exact k.nx _ _ _ _ q2 (g0.trans g3) g3.ex ((s.gr g3).set (.lst upd_same (hd.mono (Ex.new gp))))
/-- what was one's own becomes known -/
theorem Gr.frzs {K : PySem.W.Frag} {G H G2 H2 : Hp} {f : List Addr} (x : Gr K B G H G2 H2) (hf : ∀ p ∈ f, H p = none ∧ B.nb p ∧ G2 p = none) : Gr K B G H (frzG G2 H2 f) H2 := by
  have ex := frz_ex (G := G2) (H := H2) (f := f) fun p hp => (hf p hp).2.2
  have nn : ∀ a, ¬ B.nb a → a ∉ f := fun a n z => n (hf a z).2.1
  refine ⟨x.ex.trans ex, x.kp, ⟨fun a u h => ?_, ?_, ?_, x.j.next ex (fun _ _ _ h => h) (fun a n _ => by unfold frzG; rw [if_neg (nn a n)]) (fun t h _ => ⟨rfl, fun g => by unfold frzG; rw [if_neg fun z => (hf _ z).2.1.tab t h rfl]; exact g⟩) (fun _ _ h => ⟨_, h⟩)⟩, fun a h => ?_⟩
  · unfold frzG at h
    split at h
    · exact h
    · exact x.j.ex a u h
  · unfold frzG
    rw [if_neg fun z => (hf _ z).2.1.1.1 rfl]
    exact x.j.no
  · obtain ⟨a, b, c, ns, h1, h2, h3⟩ := x.j.bag
    exact ⟨a, b, c, ns, h1, ex_l ex h2, h3⟩
  · unfold frzG
    rw [if_neg fun z => h.ne (hf _ z).1]
    exact x.old a h
/-- what stands in slot i is one's own no more: it's data from here on -/
def dFrz (i : Nat) (t : DTS) : DTS := fun W δ => match δ[i]? with
  | some (some (.ow _ o)) => t W (δ.set i (some (.sh o.toD)))
  | _ => False
theorem set_same {σ : L2.St} {i : Nat} {v : V} (h : σ[i]? = some (some v)) : σ.set i (some v) = σ := by
  apply List.ext_getElem?
  intro j
  by_cases hj : i = j
  · subst hj
    rw [List.getElem?_set_self (List.getElem?_eq_some_iff.mp h).1, h]
  · rw [List.getElem?_set_ne hj]
/-- the dicts at these places are locked -/
theorem lock_all {pins : List (Addr × Obj)} {σ : L2.St} {s : Shared} : ∀ (f : List Addr) {H : Hp}, Inv X pins σ H s → f.Nodup → ∃ L, Inv X pins σ L s ∧ Lkd H L f
  | [], H, I, _ => ⟨H, I, fun _ _ => rfl, fun _ _ h => h, (fun _ _ z => nomatch z), (fun _ _ z => nomatch z), fun _ _ h => h⟩
  | p :: f, H, I, nd => by
    have hp : p ∉ f := (List.nodup_cons.mp nd).1
    obtain ⟨L, I1, l⟩ := lock_all f I (List.nodup_cons.mp nd).2
    have hpL : L p = H p := l.out p hp
    by_cases h1 : ∃ u, H p = some u ∧ Mut (some u) ∧ ((∃ vs, u = .dK vs) ∨ ∃ vs, u = .dT vs)
    · obtain ⟨u, hu, mu, hk⟩ := h1
      obtain ⟨od, I2⟩ := I1.lock (hpL.trans hu) mu
      refine ⟨_, I2, fun q hq => ?_, fun q vs h => ?_, fun q vs hq h => ?_, fun q vs hq h => ?_, fun q ps h => ?_⟩
      · rw [upd_ne fun e => hq (by rw [e]; exact List.mem_cons_self)]
        exact l.out q fun z => hq (List.mem_cons_of_mem _ z)
      · have ne : q ≠ p := fun e => by
          rw [e, hu] at h
          cases h
          rcases hk with ⟨_, z⟩ | ⟨_, z⟩ <;> cases z
        rw [upd_ne ne]
        exact l.lst q vs h
      · by_cases e : q = p
        · subst e
          rw [hu] at h
          cases h
          exact ⟨od, upd_same⟩
        · rw [upd_ne e]
          exact l.dK q vs ((List.mem_cons.mp hq).resolve_left e) h
      · by_cases e : q = p
        · subst e
          rw [hu] at h
          cases h
          exact ⟨od, upd_same⟩
        · rw [upd_ne e]
          exact l.dT q vs ((List.mem_cons.mp hq).resolve_left e) h
      · by_cases e : q = p
        · subst e
          rw [upd_same] at h
          cases h
        · rw [upd_ne e] at h
          exact l.tb q ps h
    · refine ⟨L, I1, fun q hq => l.out q fun z => hq (List.mem_cons_of_mem _ z), l.lst, fun q vs hq h => ?_, fun q vs hq h => ?_, l.tb⟩
      · by_cases e : q = p
        · subst e
          exact absurd ⟨_, h, trivial, .inl ⟨_, rfl⟩⟩ h1
        · exact l.dK q vs ((List.mem_cons.mp hq).resolve_left e) h
      · by_cases e : q = p
        · subst e
          exact absurd ⟨_, h, trivial, .inr ⟨_, rfl⟩⟩ h1
        · exact l.dT q vs ((List.mem_cons.mp hq).resolve_left e) h
/-- own places are locked: what is known stays known -/
theorem Gr.lock {K : PySem.W.Frag} {G H G2 H2 L : Hp} {f : List Addr} (x : Gr K B G H G2 H2) (l : Lkd H2 L f) (hf : ∀ p ∈ f, H p = none ∧ B.nb p ∧ G2 p = none) : Gr K B G H G2 L := by
  refine ⟨x.ex, fun a o n h => ?_, ⟨fun a u h => ?_, x.j.no, ?_, x.j.next (Ex.refl _) (fun a o n h => (l.out a fun z => n (hf a z).2.1).trans h) (fun _ _ _ => rfl) (fun t h _ => ⟨l.out _ fun z => (hf _ z).2.1.tab t h rfl, fun g => g⟩) (fun a ps h => ⟨ps, l.tb a ps h⟩)⟩, x.old⟩
  · rw [l.out a fun z => by rw [(hf a z).1] at h; cases h]
    exact x.kp a o n h
  · rw [l.out a fun z => by rw [(hf a z).2.2] at h; cases h]
    exact x.j.ex a u h
  · obtain ⟨a, b, c, ns, h1, h2, h3⟩ := x.j.bag
    exact ⟨a, b, c, ns, by rw [l.out _ fun z => (hf _ z).2.1.1.1 rfl]; exact h1, h2, h3⟩
theorem frz_run {i : Nat} {t : DTS} {E : Ends} {σ : L2.St} {H : Hp} {pins : List (Addr × Obj)} {s : Shared} (I : Inv X pins σ H s) (q : liftS X.K B (dFrz i t) E σ H) : ∃ L, Inv X pins σ L s ∧ liftS X.K B t E σ L := by
  obtain ⟨G0, H0, G, δ, W, g0, st, h, k⟩ := q
  unfold dFrz at h
  cases h1 : δ[i]? with
  | none => rw [h1] at h; exact h.elim
  | some o =>
    cases o with
    | none => rw [h1] at h; exact h.elim
    | some x =>
      cases x with
      | sh d => rw [h1] at h; exact h.elim
      | nw _ _ _ => rw [h1] at h; exact h.elim
      | ow v o =>
        rw [h1] at h
        obtain ⟨F, y⟩ := st.ex
        obtain ⟨e1, e2, e3, e4⟩ := y.ow h1
        obtain ⟨L, I2, l⟩ := lock_all (F i) I e3
        have hG : ∀ p ∈ F i, G p = none := fun p hp => (e2.node p hp).1
        have ex := frz_ex (G := G) (H := L) hG
        have g1 := g0.lock l fun p hp => ⟨(e4 p hp).1, (e4 p hp).2, hG p hp⟩
        refine ⟨L, I2, G0, H0, frzG G L (F i), δ.set i (some (.sh o.toD)), W, g1.frzs fun p hp => ⟨(e4 p hp).1, (e4 p hp).2, hG p hp⟩, ?_, h, k.up ex⟩
        have s3 := y.put (i := i) (List.getElem?_eq_some_iff.mp e1).1 ex (H2 := L) (fun p _ _ hp => ⟨l.out p hp, by unfold frzG; rw [if_neg hp]⟩) (.sh (e2.dat hG l fun p hp => hp)) fun p hp => nomatch hp
        rw [set_same e1] at s3
        exact ⟨_, s3⟩
theorem psds_frz {st : List Stmt} {t : DTS} (i : Nat) (h : PSsD X B st t) : PSsD X B st (dFrz i t) := ⟨fun pins s σ H E I hw => let ⟨L, I2, q⟩ := frz_run I hw; h.run pins s σ L E I2 q⟩
end
def startD (n : Nat) (ds : List D) : DS := ds.map (fun d => some (.sh d)) ++ List.replicate (n - ds.length) none
theorem start_ok {K : PySem.W.Frag} {B : Bx} {H0 G H : Hp} {N : List Str} {vs : List V} {ds : List D} (h : Dats K B G vs ds) : StOk K B H0 G H (L2.start N vs) (startD N.length ds) := by
  refine ⟨fun _ => [], ?_, fun i ov od e1 e2 => ?_, fun _ _ _ _ _ p hp => nomatch hp⟩
  · unfold L2.start startD
    rw [List.length_append, List.length_append, List.length_map, List.length_map, List.length_replicate, List.length_replicate, h.len]
  · unfold startD at e2
    unfold L2.start at e1
    by_cases hi : i < ds.length
    · rw [List.getElem?_append_left (by rw [List.length_map]; exact hi), List.getElem?_map] at e2
      rw [List.getElem?_append_left (by rw [List.length_map, h.len]; exact hi), List.getElem?_map] at e1
      cases hd : ds[i]? with
      | none => rw [hd] at e2; cases e2
      | some d' =>
        rw [hd] at e2
        cases e2
        obtain ⟨v, h1, h2⟩ := h.get hd
        rw [h1] at e1
        cases e1
        exact .sh h2
    · rw [List.getElem?_append_right (by rw [List.length_map]; omega), List.getElem?_replicate] at e2
      split at e2
      · cases e2
        exact .no
      · cases e2
section
variable {P : Program} {w : World} {K : PySem.W.Frag} {mg : Str → Option Value} {base : Heap}
theorem fn_d {x qual : Str} {st : Stmt} {f : Addr} {fd : FuncData} {N ps : List Str} {k : Nat} {B : Bx} {S : FD} {t : DTS} (F : Fun K x qual st f fd) (Sc : FnScope N ps (defScope st)) (len : ∀ ds Q, S ds Q → ds.length = ps.length)
    (hbody : ∀ (cdv : Value) (A : Around) (outer : List Env) (s : Shared) (H : Hp) (E : XK), Room k (A.deeper (envOfC qual (defScope st) s.heap.objs.size f cdv)) → PSsD (cxOf CX0 P w K mg base N qual (defScope st) f cdv A outer s H E).nox B (defBody st) t)
    (vc : ∀ ds Q, S ds Q → t { nx := fun _ => Q .non, rt := Q } (startD N.length ds)) : FnOk P w K mg base CX0 (k + 1) f fd ps (spD K B S) := by
  refine F.ok Sc (fun vs H Q E h => ?_) (fun cdv A outer s H vs Q E hr h => ⟨_, hbody cdv A outer s H E hr, ?_⟩)
  · obtain ⟨G, ds, R, j, hd, hs, _⟩ := h
    rw [hd.len]
    exact len ds R hs
  · obtain ⟨G, ds, R, j, hd, hs, kk⟩ := h
    refine ⟨G, H, G, startD N.length ds, _, Gr.refl j, start_ok hd, vc ds R hs, ⟨?_, ?_, ?_, ?_, ?_⟩⟩
    · exact fun σ δ G2 H2 q g _ s2 => kk .non .non G2 H2 q g .non
    · exact fun σ δ G2 H2 q g _ s2 => q.elim
    · exact fun σ δ G2 H2 q g _ s2 => q.elim
    · exact fun d v G2 H2 q g _ hd => kk d v G2 H2 q g hd
    · exact fun o v f G2 H2 q => q.elim
end
end DL
namespace DL
open PySem PySem.Spec PyProof.Rows L2 Evl
mutual
def D.py : D → PyData
  | .non => .none
  | .bl b => .bool b
  | .int i => .int i
  | .str x => .str x
  | .lst xs => .list (pyL xs)
  | .tup xs => .tuple (pyL xs)
  | .dic _ => .none
  | .obj _ _ => .none
  | .bag => .none
  | .ktup _ => .none
def pyL : List D → List PyData
  | [] => []
  | x :: xs => D.py x :: pyL xs
end
mutual
def D.fine : D → Bool
  | .non => true
  | .bl _ => true
  | .int i => decide (i.natAbs.log2 < 1920)
  | .str x => PyData.strOk x
  | .lst xs => fineL xs
  | .tup xs => fineL xs
  | .dic _ => false
  | .obj _ _ => false
  | .bag => false
  | .ktup _ => false
def fineL : List D → Bool
  | [] => true
  | x :: xs => D.fine x && fineL xs
end
mutual
def D.dep : D → Nat
  | .lst xs => depL xs + 1
  | .tup xs => depL xs + 1
  | _ => 0
def depL : List D → Nat
  | [] => 0
  | x :: xs => max (D.dep x) (depL xs)
end
mutual
def D.wt : D → Nat
  | .non => 4
  | .bl _ => 5
  | .int _ => 2000
  | .str x => 10 * x.length + 2
  | .lst xs => wtL xs + 4
  | .tup xs => wtL xs + 4
  | _ => 0
def wtL : List D → Nat
  | [] => 0
  | x :: xs => D.wt x + 2 + wtL xs
end
mutual
theorem py_lay : ∀ d : D, d.fine = true → d.py.canLay0 = true
  | .non, _ => rfl
  | .bl _, _ => rfl
  | .int _, _ => rfl
  | .str x, h => by simpa [D.py, PyData.canLay0, D.fine] using h
  | .lst xs, h => by
    rw [D.py, PyData.canLay0]
    exact pyL_lay xs (by simpa [D.fine] using h)
  | .tup xs, h => by
    rw [D.py, PyData.canLay0]
    exact pyL_lay xs (by simpa [D.fine] using h)
  | .dic _, h => by simp [D.fine] at h
  | .obj _ _, h => by simp [D.fine] at h
  | .bag, h => by simp [D.fine] at h
  | .ktup _, h => by simp [D.fine] at h
theorem pyL_lay : ∀ ds : List D, fineL ds = true → PyData.canLayAll0 (pyL ds) = true
  | [], _ => rfl
  | x :: xs, h => by
    have h' : x.fine = true ∧ fineL xs = true := by simpa [fineL] using h
    rw [pyL, PyData.canLayAll0, py_lay x h'.1, pyL_lay xs h'.2]
    rfl
end
mutual
theorem py_show : ∀ d : D, d.fine = true → d.py.showable = true
  | .non, _ => rfl
  | .bl _, _ => rfl
  | .int i, h => by simpa [D.py, PyData.showable, D.fine] using h
  | .str x, h => rfl
  | .lst xs, h => by
    rw [D.py, PyData.showable]
    exact pyL_show xs (by simpa [D.fine] using h)
  | .tup xs, h => by
    rw [D.py, PyData.showable]
    exact pyL_show xs (by simpa [D.fine] using h)
  | .dic _, h => by simp [D.fine] at h
  | .obj _ _, h => by simp [D.fine] at h
  | .bag, h => by simp [D.fine] at h
  | .ktup _, h => by simp [D.fine] at h
theorem pyL_show : ∀ ds : List D, fineL ds = true → PyData.showableAll (pyL ds) = true
  | [], _ => rfl
  | x :: xs, h => by
    have h' : x.fine = true ∧ fineL xs = true := by simpa [fineL] using h
    rw [pyL, PyData.showableAll, py_show x h'.1, pyL_show xs h'.2]
    rfl
end
mutual
theorem py_dep : ∀ d : D, d.fine = true → d.py.depth ≤ d.dep
  | .non, _ => by simp [D.py, PyData.depth]
  | .bl _, _ => by simp [D.py, PyData.depth]
  | .int _, _ => by simp [D.py, PyData.depth]
  | .str x, h => by simp [D.py, PyData.depth]
  | .lst xs, h => by
    have := pyL_dep xs (by simpa [D.fine] using h)
    rw [D.py, PyData.depth, D.dep]
    omega
  | .tup xs, h => by
    have := pyL_dep xs (by simpa [D.fine] using h)
    rw [D.py, PyData.depth, D.dep]
    omega
  | .dic _, h => by simp [D.fine] at h
  | .obj _ _, h => by simp [D.fine] at h
  | .bag, h => by simp [D.fine] at h
  | .ktup _, h => by simp [D.fine] at h
theorem pyL_dep : ∀ ds : List D, fineL ds = true → PyData.depthAll (pyL ds) ≤ depL ds
  | [], _ => by simp [pyL, PyData.depthAll]
  | x :: xs, h => by
    have h' : x.fine = true ∧ fineL xs = true := by simpa [fineL] using h
    have h1 := py_dep x h'.1
    have h2 := pyL_dep xs h'.2
    rw [pyL, PyData.depthAll, depL]
    omega
end
theorem textFrom_up : ∀ (ts : List Str) (k : Nat) (acc : Str), (textFrom k acc ts).length ≤ acc.length + (ts.map fun t => t.length + 2).sum
  | [], k, acc => by simp [textFrom]
  | t :: r, k, acc => by
    have ih := textFrom_up r (k + 1) (acc ++ (if k > 0 then ", " else "" : String) ++ t)
    rw [textFrom]
    have e : (acc ++ (if k > 0 then ", " else "" : String) ++ t).length ≤ acc.length + 2 + t.length := by
      rw [strLen_append, strLen_append]
      by_cases hk : k > 0
      · rw [if_pos hk]
        have e2 : ((", " : String) : Str).length = 2 := rfl
        omega
      · rw [if_neg hk]
        have e2 : (("" : String) : Str).length = 0 := rfl
        omega
    rw [List.map_cons, List.sum_cons]
    omega
theorem listText_up (ts : List Str) : (listText ts).length ≤ (ts.map fun t => t.length + 2).sum + 2 := by
  unfold listText
  rw [strLen_append]
  have h := textFrom_up ts 0 "["
  have e1 : (("[" : String) : Str).length = 1 := rfl
  have e2 : (("]" : String) : Str).length = 1 := rfl
  omega
theorem join_up : ∀ ts : List Str, (Str.join ", " ts).length ≤ (ts.map fun t => t.length + 2).sum
  | [] => by simp [Str.join]; rfl
  | [x] => by
    show x.length ≤ _
    simp
  | x :: y :: r => by
    have ih := join_up (y :: r)
    show (x ++ ", " ++ Str.join ", " (y :: r)).length ≤ _
    rw [strLen_append, strLen_append, List.map_cons, List.sum_cons]
    have e2 : ((", " : String) : Str).length = 2 := rfl
    omega
theorem tupleText_up (ts : List Str) : (tupleText ts).length ≤ (ts.map fun t => t.length + 2).sum + 3 := by
  unfold tupleText
  rw [strLen_append, strLen_append]
  have h := join_up ts
  have e1 : (("(" : String) : Str).length = 1 := rfl
  by_cases hk : (ts.length == 1) = true
  · rw [if_pos hk]
    have e2 : ((",)" : String) : Str).length = 2 := rfl
    omega
  · rw [if_neg hk]
    have e2 : ((")" : String) : Str).length = 1 := rfl
    omega
theorem strOk_lt {x : Str} (h : PyData.strOk x = true) : ∀ c ∈ x.cps.toList, c < 16 ^ 8 := fun c hc => by
  unfold PyData.strOk at h
  rw [← Array.all_toList, List.all_eq_true] at h
  have := of_decide_eq_true (h c hc)
  omega
theorem int_text_len {i : Int} (h : i.natAbs.log2 < 1920) : (Str.ofString (toString i)).length ≤ 2000 := by
  rw [PySem.ofString_length]
  have := int_text_length_le (by decide) h
  omega
mutual
theorem py_len : ∀ d : D, d.fine = true → d.py.shown.length ≤ d.wt
  | .non, _ => by decide +kernel
  | .bl b, _ => by cases b <;> decide +kernel
  | .int i, h => by
    rw [D.py, PyData.shown, D.wt]
    exact int_text_len (by simpa [D.fine] using h)
  | .str x, h => by
    rw [D.py, PyData.shown, D.wt]
    exact StrLaws.reprText_len x (strOk_lt (by simpa [D.fine] using h))
  | .lst xs, h => by
    have := pyL_len xs (by simpa [D.fine] using h)
    have h2 := listText_up (PyData.shownAll (pyL xs))
    rw [D.py, PyData.shown, D.wt]
    omega
  | .tup xs, h => by
    have := pyL_len xs (by simpa [D.fine] using h)
    have h2 := tupleText_up (PyData.shownAll (pyL xs))
    rw [D.py, PyData.shown, D.wt]
    omega
  | .dic _, h => by simp [D.fine] at h
  | .obj _ _, h => by simp [D.fine] at h
  | .bag, h => by simp [D.fine] at h
  | .ktup _, h => by simp [D.fine] at h
theorem pyL_len : ∀ ds : List D, fineL ds = true → ((PyData.shownAll (pyL ds)).map fun t => t.length + 2).sum ≤ wtL ds
  | [], _ => by simp [pyL, PyData.shownAll]
  | x :: xs, h => by
    have h' : x.fine = true ∧ fineL xs = true := by simpa [fineL] using h
    have h1 := py_len x h'.1
    have h2 := pyL_len xs h'.2
    rw [pyL, PyData.shownAll, wtL, List.map_cons, List.sum_cons]
    omega
end
section
variable {K : PySem.W.Frag} {B : Bx} {G H : Hp}
mutual
theorem dat_dp (e : Ex G H) : ∀ {v : V} {d : D}, Dat K B G v d → d.fine = true → Dp K H v d.py
  | _, _, .non, _ => .non
  | _, _, .bl b, _ => .bl b
  | _, _, .int i, _ => .int i
  | _, _, .str x, _ => .str x
  | _, _, .lst h t, f => by
    rw [D.py]
    exact .lst (sq_of (e _ _ h)) (dats_dp e t (by simpa [D.fine] using f))
  | _, _, .tup h t, f => by
    rw [D.py]
    exact .tup (tx e h) (dats_dp e t (by simpa [D.fine] using f))
  | _, _, .dK h t, f => by simp [D.fine] at f
  | _, _, .dT h t, f => by simp [D.fine] at f
  | _, _, .ktup h t, f => by simp [D.fine] at f
  | _, _, .bag, f => by simp [D.fine] at f
  | _, _, .obj _ _ _, f => by simp [D.fine] at f
theorem dats_dp (e : Ex G H) : ∀ {v : List V} {d : List D}, Dats K B G v d → fineL d = true → DpAll K H v (pyL d)
  | _, _, .nil, _ => .nil
  | _, _, .cons h t, f => by
    have f' := (Bool.and_eq_true_iff.mp (show (D.fine _ && fineL _) = true by rw [fineL] at f; exact f))
    rw [pyL]
    exact .cons (dat_dp e h f'.1) (dats_dp e t f'.2)
end
end
def eqb (x y : D) : Bool := PyData.eqv x.py y.py
theorem eqb_refl {x : D} (h : x.fine = true) : eqb x x = true := SeqAt.eqv_refl _ (py_lay x h)
def plain (x : D) : Bool := x.fine && decide (x.dep ≤ 64)
theorem plain_shaped {x : D} (h : plain x = true) : SeqAt.shaped x.py = true := by
  have h' := Bool.and_eq_true_iff.mp h
  have h2 := py_dep x h'.1
  have h3 : x.dep ≤ 64 := of_decide_eq_true h'.2
  unfold SeqAt.shaped
  rw [py_lay x h'.1, decide_eq_true (by omega : x.py.depth ≤ 64)]
  rfl
def oEq : O2 := fun x y Q => match x, y with
  | .str a, .str b => Q (.bl (decide (a = b)))
  | .int a, .int b => Q (.bl (decide (a = b)))
  | .bl a, .bl b => Q (.bl (a == b))
  | x, y => (plain x = true ∧ plain y = true) ∧ Q (.bl (eqb x y))
def oNe : O2 := fun x y Q => match x, y with
  | .str a, .str b => Q (.bl (!decide (a = b)))
  | .int a, .int b => Q (.bl (!decide (a = b)))
  | .bl a, .bl b => Q (.bl (!(a == b)))
  | x, y => (plain x = true ∧ plain y = true) ∧ Q (.bl (!eqb x y))
theorem dec_str_v {a b : Str} : decide (V.str a = V.str b) = decide (a = b) := by
  by_cases e : a = b
  · subst e; simp
  · rw [decide_eq_false e, decide_eq_false fun z => e (V.str.inj z)]
theorem dec_int_v {a b : Int} : decide (V.int a = V.int b) = decide (a = b) := by
  by_cases e : a = b
  · subst e; simp
  · rw [decide_eq_false e, decide_eq_false fun z => e (V.int.inj z)]
theorem op_eq_d {X : Cx} {B : Bx} (hu : X.A.units + 64 < cLine) : OpR X (compareOp .Eq) (rLift X.K B oEq) := by
  intro pins s σ H x y v u P I rx ry h
  obtain ⟨G, dx, dy, Q, j, hx, hy, hq, k⟩ := h
  have gen : (plain dx = true ∧ plain dy = true) ∧ Q (.bl (eqb dx dy)) → wpAny (model X.prog X.w) X.A (compareOp .Eq v u) (EP X pins σ P) X.xe s := fun ⟨⟨px, py⟩, q⟩ =>
    op_eqD hu pins s σ H x y v u P I rx ry ⟨dx.py, dy.py, dat_dp j.ex hx (Bool.and_eq_true_iff.mp px).1, dat_dp j.ex hy (Bool.and_eq_true_iff.mp py).1, plain_shaped px, plain_shaped py, k _ _ G H q (Gr.refl j) (.bl _)⟩
  cases hx with
  | str a =>
    cases hy with
    | str b =>
      refine op_eq pins s σ H _ _ v u P I rx ry ⟨rfl, ?_⟩
      rw [dec_str_v]
      exact k _ _ G H hq (Gr.refl j) (.bl _)
    | _ => exact gen hq
  | int a =>
    cases hy with
    | int b =>
      refine op_eq pins s σ H _ _ v u P I rx ry ⟨rfl, ?_⟩
      rw [dec_int_v]
      exact k _ _ G H hq (Gr.refl j) (.bl _)
    | _ => exact gen hq
  | bl a =>
    cases hy with
    | bl b =>
      refine op_eq pins s σ H _ _ v u P I rx ry ⟨rfl, ?_⟩
      rw [dec_bl]
      exact k _ _ G H hq (Gr.refl j) (.bl _)
    | _ => exact gen hq
  | _ => exact gen hq
theorem op_ne_d {X : Cx} {B : Bx} (hu : X.A.units + 64 < cLine) : OpR X (compareOp .NotEq) (rLift X.K B oNe) := by
  intro pins s σ H x y v u P I rx ry h
  obtain ⟨G, dx, dy, Q, j, hx, hy, hq, k⟩ := h
  have gen : (plain dx = true ∧ plain dy = true) ∧ Q (.bl (!eqb dx dy)) → wpAny (model X.prog X.w) X.A (compareOp .NotEq v u) (EP X pins σ P) X.xe s := fun ⟨⟨px, py⟩, q⟩ =>
    op_neD hu pins s σ H x y v u P I rx ry ⟨dx.py, dy.py, dat_dp j.ex hx (Bool.and_eq_true_iff.mp px).1, dat_dp j.ex hy (Bool.and_eq_true_iff.mp py).1, plain_shaped px, plain_shaped py, k _ _ G H q (Gr.refl j) (.bl _)⟩
  cases hx with
  | str a =>
    cases hy with
    | str b =>
      refine op_ne pins s σ H _ _ v u P I rx ry ⟨rfl, ?_⟩
      rw [dec_str_v]
      exact k _ _ G H hq (Gr.refl j) (.bl _)
    | _ => exact gen hq
  | int a =>
    cases hy with
    | int b =>
      refine op_ne pins s σ H _ _ v u P I rx ry ⟨rfl, ?_⟩
      rw [dec_int_v]
      exact k _ _ G H hq (Gr.refl j) (.bl _)
    | _ => exact gen hq
  | bl a =>
    cases hy with
    | bl b =>
      refine op_ne pins s σ H _ _ v u P I rx ry ⟨rfl, ?_⟩
      rw [dec_bl]
      exact k _ _ G H hq (Gr.refl j) (.bl _)
    | _ => exact gen hq
  | _ => exact gen hq
def cRepr : FD := fun ds Q => match ds with
  | [d] => (plain d = true ∧ d.wt ≤ 16000000) ∧ Q (.str d.py.shown)
  | _ => False
theorem call_repr_d {X : Cx} {B : Bx} (hg : X.A.guards = some []) (hu : X.A.units + 70 < cLine) : CallR X (.builtin "repr") (cLift X.K B cRepr) := by
  intro pins s σ H vs us P I rv h
  obtain ⟨G, ds, Q, j, hd, hq, k⟩ := h
  cases hd with
  | nil => exact hq.elim
  | cons h1 h2 =>
    cases h2 with
    | cons _ _ => exact hq.elim
    | nil =>
      rename_i v d
      obtain ⟨⟨hp, hw⟩, hq⟩ := hq
      have hf := (Bool.and_eq_true_iff.mp hp).1
      have hdep : d.dep ≤ 64 := of_decide_eq_true (Bool.and_eq_true_iff.mp hp).2
      have hdep2 := py_dep d hf
      have hz : d.py.shown.length ≤ sizeLine := Nat.le_trans (py_len d hf) (Nat.le_trans hw (by decide))
      have kk := k _ _ G H hq (Gr.refl j) (.str _)
      cases rv with
      | cons r1 r2 =>
        cases r2
        cases h1 with
        | non =>
          cases r1
          exact PySem.P.repr_of_none ⟨.str _, H, I.tok _, ⟨_, rfl⟩, kk⟩
        | bl b =>
          cases r1
          refine PySem.P.repr_of_bool ⟨.str _, H, I.tok _, ⟨_, rfl⟩, ?_⟩
          rw [D.py, PyData.shown] at kk
          cases b <;> exact kk
        | int i =>
          obtain ⟨t, rfl⟩ := r1
          exact PySem.P.repr_of_int (by simpa [D.fine] using hf) ⟨.str _, H, I.tok _, ⟨_, rfl⟩, kk⟩
        | str x =>
          obtain ⟨t, rfl⟩ := r1
          exact PySem.P.repr_of_str ⟨.str _, H, I.tok _, ⟨_, rfl⟩, kk⟩ hz
        | lst a1 a2 =>
          obtain ⟨as, hr⟩ := Dp.reads I _ _ _ (dat_dp j.ex (.lst a1 a2) hf) r1
          cases r1
          exact repr_of_reads' hr (py_show _ hf) (PyData.noDict_hsm (PyData.hasDict_of_canLay _ (py_lay _ hf))) hg (by omega) (fun _ _ e => e) (fun h' u tk hk => ⟨.str _, H, I.kept hk, ⟨_, rfl⟩, kk⟩) hz
        | tup a1 a2 =>
          obtain ⟨as, hr⟩ := Dp.reads I _ _ _ (dat_dp j.ex (.tup a1 a2) hf) r1
          cases r1
          exact repr_of_reads' hr (py_show _ hf) (PyData.noDict_hsm (PyData.hasDict_of_canLay _ (py_lay _ hf))) hg (by omega) (fun _ _ e => e) (fun h' u tk hk => ⟨.str _, H, I.kept hk, ⟨_, rfl⟩, kk⟩) hz
        | _ => simp [D.fine] at hf
end DL
namespace DL
open PySem PySem.Spec PyProof.Rows L2 Evl
structure FnG (P : Program) (w : World) (K : PySem.W.Frag) (mg : Str → Option Value) (base : Heap) (CX : CXT) (k : Nat) (f : Addr) (fd : FuncData) (ps : List Str) (sp : Sp) : Prop where
  len : ∀ vs H Q E, sp vs H Q E → vs.length = ps.length
  go : ∀ (A : Around) (fr : List Env) (s : Shared) (H : Hp) (args : Args) (us : List Value) (vs : List V) (Q : VK) (E : XK), A.guards = some [] → Room k A → Env0 P w K mg base A fr s H → BindsTo s fd args (ps.zip us) → Vals vs us → sp vs H Q E →
    codeAny (model P w) A (.call (.ref f) args) (CR CX fr P w H s Q E) s
section
variable {P : Program} {w : World} {K : PySem.W.Frag} {mg : Str → Option Value} {base : Heap} {CX : CXT} {f : Addr} {fd : FuncData} {ps : List Str} {sp : Sp} {k : Nat}
theorem FnG.mono {j : Nat} (F : FnG P w K mg base CX j f fd ps sp) (h : j ≤ k) : FnG P w K mg base CX k f fd ps sp :=
  ⟨F.len, fun A fr s H args us vs Q E hg hr => F.go A fr s H args us vs Q E hg (hr.mono h)⟩
theorem fng_of {x qual : Str} {st : Stmt} {N : List Str} (F : Fun K x qual st f fd) (S : FnScope N ps (defScope st)) (len : ∀ vs H Q E, sp vs H Q E → vs.length = ps.length)
    (hbody : ∀ (cdv : Value) (A : Around) (fr : List Env) (s : Shared) (H : Hp) (vs : List V) (Q : VK) (E : XK), A.guards = some [] → Room k (A.deeper (envOfC qual (defScope st) s.heap.objs.size f cdv)) → sp vs H Q E →
      ∃ t, PSs (cxOf CX P w K mg base N qual (defScope st) f cdv A fr s H E) (defBody st) t ∧ t { nx := fun _ H' => Q .non H', rt := Q } (L2.start N vs) H) : FnG P w K mg base CX (k + 1) f fd ps sp := by
  obtain ⟨oc, od, kV, doc, pm, an, cdv, ct, osl, rfl, lk, hcd⟩ := F.ex
  refine ⟨len, fun A fr s H args us vs Q E hgd room env bnd rel hsp => ?_⟩
  have inK : K.In s.heap := env.mod.kin.keeps fun b o z => (env.bs b o z).1
  have noLim : s.heap.NoLimit := env.mod.nolimit.keeps fun b o z => (env.bs b o z).1
  refine codeAny_call_function room.depth (inK _ _ lk) rfl S.co S.gen rfl (PySem.W.codeRec_of inK hcd) (bnd _ _ _ _ ?_)
  refine wpAny_newFunctionEnv_cells S.kind (fun ⟨n, v⟩ hy => (S.par n (List.of_mem_zip hy).1).elim .inl fun z => .inr ⟨z, PySem.W.cellsFrom_some _ _ _ (.inl z)⟩) fun _ hEnv s1 born => ?_
  subst hEnv
  refine ⟨noLim.keeps born.toInCall.keep, codeAny_func ?_⟩
  obtain ⟨t, ht, hw⟩ := hbody cdv A fr s H vs Q E hgd (room.deeper _) hsp
  have I := inv_start (CX := CX) (E := E) S room.hd env (len _ _ _ _ hsp) rel born
  refine wpAny_mono (ht.run [] s1 _ H _ I hw) (fun fl s' hs => ?_) fun _ _ z => z
  cases fl with
  | next =>
    obtain ⟨σ', H', J, q⟩ := hs
    exact ⟨.non, H', J.os, J.bare, J.base, J.hok, rfl, q⟩
  | ret u =>
    obtain ⟨v, σ', H', J, rv, q⟩ := hs
    exact ⟨v, H', J.os, J.bare, J.base, J.hok, rv, q⟩
  | brk => exact hs.elim fun _ z => z.elim fun _ y => y.2.elim
  | cont => exact hs.elim fun _ z => z.elim fun _ y => y.2.elim
/-- the promise over data -/
theorem fng_d {x qual : Str} {st : Stmt} {N : List Str} {B : Bx} {S : FD} {t : DTS} (F : Fun K x qual st f fd) (Sc : FnScope N ps (defScope st)) (len : ∀ ds Q, S ds Q → ds.length = ps.length)
    (hbody : ∀ (cdv : Value) (A : Around) (fr : List Env) (s : Shared) (H : Hp) (E : XK), A.guards = some [] → Room k (A.deeper (envOfC qual (defScope st) s.heap.objs.size f cdv)) → PSsD (cxOf CX0 P w K mg base N qual (defScope st) f cdv A fr s H E).nox B (defBody st) t)
    (vc : ∀ ds Q, S ds Q → t { nx := fun _ => Q .non, rt := Q } (startD N.length ds)) : FnG P w K mg base CX0 (k + 1) f fd ps (spD K B S) := by
  refine fng_of F Sc (fun vs H Q E h => ?_) (fun cdv A fr s H vs Q E hg hr h => ⟨_, (hbody cdv A fr s H E hg hr).nox, ?_⟩)
  · obtain ⟨G, ds, R, j, hd, hs, _⟩ := h
    rw [hd.len]
    exact len ds R hs
  · obtain ⟨G, ds, R, j, hd, hs, kk⟩ := h
    refine ⟨G, H, G, startD N.length ds, _, Gr.refl j, start_ok hd, vc ds R hs, ⟨?_, ?_, ?_, ?_, ?_⟩⟩
    · exact fun σ δ G2 H2 q g _ s2 => kk .non .non G2 H2 q g .non
    · exact fun σ δ G2 H2 q g _ s2 => q.elim
    · exact fun σ δ G2 H2 q g _ s2 => q.elim
    · exact fun d v G2 H2 q g _ hd => kk d v G2 H2 q g hd
    · exact fun o v f G2 H2 q => q.elim
end
section
variable {X : Cx} {B : Bx} {CX : CXT} {k : Nat} {f : Addr} {fd : FuncData} {ps : List Str} {S : FD} {x : Str} {E : XK} {e : Expr} {es : List Expr} {pos fp : Pos}
theorem runG {sp : Sp} {pins : List (Addr × Obj)} {σ : L2.St} {H : Hp} {s : Shared} {Q : VK} {us : List Value} {vs : List V} (F : FnG X.prog X.w X.K X.mg X.base CX k f fd ps sp) (hgd : X.A.guards = some []) (hr : Room k X.A) (hb : Binds X.K fd ps []) (hx : Passes CX X E)
    (I : Inv X pins σ H s) (r : Vals vs us) (h : sp vs H Q E) : wpAny (model X.prog X.w) X.A (call (.ref f) us) (EP X pins σ Q) X.xe s := by
  have hl : (us ++ []).length = ps.length := by rw [List.append_nil, ← r.length]; exact F.len _ _ _ _ h
  have hbb := hb s us I.kIn hl
  rw [List.append_nil] at hbb
  refine wpAny_call (codeAny_mono (F.go X.A X.stack s H ⟨us, []⟩ us vs Q E hgd hr I.env0 hbb r h) fun res s' hq => ?_)
  match res, hq with
  | .error err, hq => exact hx pins σ H s err s' I hq
  | .ok (.ret u), hq => exact I.after hq
theorem pd_callG {ra : DA} (F : FnG X.prog X.w X.K X.mg X.base CX k f fd ps (spD X.K B S)) (hgd : X.A.guards = some []) (hr : Room k X.A) (hg : Gl X x) (hm : X.mg x = some (.ref f)) (hk : PySem.W.keepIn X.K (.ref f) = true)
    (hb : Binds X.K fd ps []) (hx : Passes CX X E) (ha : PAD X B (e :: es) ra) (hd : (x == ("__debug__" : Str)) = false := by decide) (he : starEach (e :: es) X.env = (false, eval e X.env) :: starEach es X.env := by rfl) (hpl : (backTo pos (starEach es X.env)).any (·.1) = false := by rfl) :
    PD X B (.Call (.Name x fp) (e :: es) [] pos) (dCall S ra) :=
  ⟨fun pins s σ H Q I q => wpAny_Call_Name_kw (ld_glob I hg hm (PySem.W.callWith_K (h₀ := X.base) I.ok.mod.kin hk (thn (ha.run pos pins s σ H _ I (liftC q)) fun us s1 ⟨vs, H1, I1, r, q1⟩ => ⟨I1.kIn, runG (E := E) F hgd hr hb hx I1 r q1⟩) he hpl) hd)⟩
end
end DL
namespace DL
open PySem PySem.Spec PyProof.Rows L2 Evl
section
variable {X : Cx} {B : Bx}
def oI (f : Int → Int → D) : O2 := fun x y Q => match x, y with
  | .int i, .int j => Q (f i j)
  | _, _ => False
def oIc (c : Int → Int → Prop) (f : Int → Int → D) : O2 := fun x y Q => match x, y with
  | .int i, .int j => c i j ∧ Q (f i j)
  | _, _ => False
theorem op_int {g : Value → Value → Sem Value} {f : Int → Int → V} {f' : Int → Int → D} (h : OpR X g (rI0 f)) (hf : ∀ G i j, Dat X.K B G (f i j) (f' i j)) : OpR X g (rLift X.K B (oI f')) := by
  intro pins s σ H x y v u P I rx ry q
  obtain ⟨G, dx, dy, Q, j, hx, hy, hq, k⟩ := q
  cases hx with
  | int a =>
    cases hy with
    | int b => exact h pins s σ H _ _ v u P I rx ry ⟨a, b, rfl, rfl, k _ _ G H hq (Gr.refl j) (hf G a b)⟩
    | _ => exact hq.elim
  | _ => exact hq.elim
theorem op_intc {g : Value → Value → Sem Value} {c : Int → Int → Prop} {f : Int → Int → V} {f' : Int → Int → D} (h : OpR X g (rI c f)) (hf : ∀ G i j, Dat X.K B G (f i j) (f' i j)) : OpR X g (rLift X.K B (oIc c f')) := by
  intro pins s σ H x y v u P I rx ry q
  obtain ⟨G, dx, dy, Q, j, hx, hy, hq, k⟩ := q
  cases hx with
  | int a =>
    cases hy with
    | int b => exact h pins s σ H _ _ v u P I rx ry ⟨a, b, rfl, rfl, hq.1, k _ _ G H hq.2 (Gr.refl j) (hf G a b)⟩
    | _ => exact hq.elim
  | _ => exact hq.elim
def oSub : O2 := oI fun i j => .int (i - j)
def oMod : O2 := oIc (fun _ j => 0 < j) fun i j => .int (i % j)
def oDiv : O2 := oIc CDivW fun i j => .int (i / j)
def oLt : O2 := oI fun i j => .bl (decide (i < j))
def oLe : O2 := oI fun i j => .bl (decide (i ≤ j))
def oGt : O2 := oI fun i j => .bl (decide (j < i))
def oGe : O2 := oI fun i j => .bl (decide (j ≤ i))
theorem op_mod_d : OpR X (binaryOp .Mod) (rLift X.K B oMod) := op_intc op_mod fun _ _ _ => .int _
theorem op_div_d : OpR X (binaryOp .FloorDiv) (rLift X.K B oDiv) := op_intc op_fdivW fun _ _ _ => .int _
theorem op_ge_d : OpR X (compareOp .GtE) (rLift X.K B oGe) := op_int op_ge fun _ _ _ => .bl _
def oNeg : O1 := fun x Q => match x with
  | .int i => Q (.int (-i))
  | _ => False
theorem un_neg_d : UnR X (unaryOp .USub) (rLift1 X.K B oNeg) := by
  intro pins s σ H x v P I rx q
  obtain ⟨G, dx, Q, j, hx, hq, k⟩ := q
  cases hx with
  | int a => exact un_neg pins s σ H _ v P I rx ⟨a, rfl, k _ _ G H hq (Gr.refl j) (.int _)⟩
  | _ => exact hq.elim
def oAdd : O2 := fun x y Q => match x, y with
  | .int i, .int j => Q (.int (i + j))
  | .str a, .str b => a.length + b.length ≤ sizeLine ∧ Q (.str (a ++ b))
  | .lst xs, .lst ys => xs.length + ys.length ≤ sizeLine ∧ Q (.lst (xs ++ ys))
  | .tup xs, .tup ys => (xs ≠ [] ∧ xs.length + ys.length ≤ sizeLine) ∧ Q (.tup (xs ++ ys))
  | _, _ => False
theorem op_add_d : OpR X (binaryOp .Add) (rLift X.K B oAdd) := by
  intro pins s σ H x y v u P I rx ry q
  obtain ⟨G, dx, dy, Q, j, hx, hy, hq, k⟩ := q
  cases hx with
  | int a =>
    cases hy with
    | int b => exact op_add pins s σ H _ _ v u P I rx ry ⟨a, b, rfl, rfl, k _ _ G H hq (Gr.refl j) (.int _)⟩
    | _ => exact hq.elim
  | str a =>
    cases hy with
    | str b => exact op_add_str pins s σ H _ _ v u P I rx ry ⟨a, b, rfl, rfl, hq.1, k _ _ G H hq.2 (Gr.refl j) (.str _)⟩
    | _ => exact hq.elim
  | lst h1 t1 =>
    cases hy with
    | lst h2 t2 =>
      refine op_cat pins s σ H _ _ v u P I rx ry ⟨_, _, _, _, rfl, rfl, j.ex _ _ h1, j.ex _ _ h2, by rw [t1.len, t2.len]; exact hq.1, fun p hp => ?_⟩
      exact k _ _ (upd G p _) _ hq.2 (Gr.new j hp) (.lst upd_same ((t1.append t2).mono (Ex.new (fresh_back j.ex hp))))
    | _ => exact hq.elim
  | tup h1 t1 =>
    cases hy with
    | tup h2 t2 =>
      obtain ⟨⟨n1, n2⟩, hq⟩ := hq
      refine op_catT pins s σ H _ _ v u P I rx ry ⟨_, _, _, _, rfl, rfl, tx j.ex h1, tx j.ex h2, fun z => ?_, by rw [t1.len, t2.len]; exact n2, fun z => ?_, fun _ p hp => ?_⟩
      · subst z; cases t1; exact n1 rfl
      · subst z; cases t2; rw [List.append_nil] at hq; exact k _ _ G H hq (Gr.refl j) (.tup h1 t1)
      · exact k _ _ (upd G p _) _ hq (Gr.new j hp) (.tup upd_same ((t1.append t2).mono (Ex.new (fresh_back j.ex hp))))
    | _ => exact hq.elim
  | _ => exact hq.elim
def repS (x : Str) (n : Nat) : Str := ⟨(List.replicate n x.cps.toList).flatten.toArray⟩
def MulOkD (i j : Int) : Prop := CMul i j ∨ CMulW i j
def oMul : O2 := fun x y Q => match x, y with
  | .int i, .int j => MulOkD i j ∧ Q (.int (i * j))
  | .str a, .int n => (0 ≤ n ∧ n ≤ 100000 ∧ a.length ≤ 100) ∧ Q (.str (repS a n.toNat))
  | .lst xs, .int n => (-(2 ^ 63) ≤ n ∧ n < 2 ^ 63 ∧ xs.length * n.toNat ≤ sizeLine) ∧ Q (.lst (List.replicate n.toNat xs).flatten)
  | _, _ => False
theorem rep_fold (a : Array Nat) : ∀ (n : Nat) (acc : Array Nat), (List.replicate n a).foldl (· ++ ·) acc = acc ++ (List.replicate n a.toList).flatten.toArray
  | 0, acc => by simp
  | n + 1, acc => by
    rw [List.replicate_succ, List.replicate_succ, List.foldl_cons, rep_fold a n, List.flatten_cons, Array.append_assoc]
    congr 1
    apply Array.ext'
    simp
theorem op_mul_d : OpR X (binaryOp .Mult) (rLift X.K B oMul) := by
  intro pins s σ H x y v u P I rx ry q
  obtain ⟨G, dx, dy, Q, j, hx, hy, hq, k⟩ := q
  cases hx with
  | int a =>
    cases hy with
    | int b =>
      have kk := k _ _ G H hq.2 (Gr.refl j) (.int _)
      rcases hq.1 with c | c
      · exact op_mul pins s σ H _ _ v u P I rx ry ⟨a, b, rfl, rfl, c, kk⟩
      · exact op_mulW pins s σ H _ _ v u P I rx ry ⟨a, b, rfl, rfl, c, kk⟩
    | _ => exact hq.elim
  | str a =>
    cases hy with
    | int n =>
      obtain ⟨⟨n0, n1, al⟩, hq⟩ := hq
      obtain ⟨t, rfl⟩ := rx
      obtain ⟨t', rfl⟩ := ry
      have kk := k _ _ G H hq (Gr.refl j) (.str _)
      refine PySem.P.mul_str ?_ (fun h1 h2 => ?_) (fun h1 h2 => ?_) ?_
      · have h2 : ¬ n ≥ 2 ^ 63 := by omega
        have h3 : ¬ n < -(2 ^ 63 : Int) := by omega
        rw [decide_eq_false h2, decide_eq_false h3]; rfl
      · have h4 : (100 : Int) ≤ (2 ^ 63 - 1) / n := (Int.le_ediv_iff_mul_le (by omega)).mpr (by omega)
        omega
      · have h4 : a.length * n.toNat ≤ 100 * 100000 := Nat.mul_le_mul al (by omega)
        unfold Builtin.Str.tooLong
        rw [sizeLine_eq]
        exact decide_eq_false (by omega)
      · by_cases h1 : n < 1
        · rw [if_pos h1]
          have e : n.toNat = 0 := by omega
          rw [e] at kk
          exact ⟨by decide, .str _, H, I.tok _, ⟨_, rfl⟩, kk⟩
        · rw [if_neg h1]
          by_cases h2 : (n == 1 || a.length == 0) = true
          · rw [if_pos h2]
            refine ⟨.str _, H, I, ⟨_, rfl⟩, ?_⟩
            have e : repS a n.toNat = a := by
              rcases Bool.or_eq_true_iff.mp h2 with h3 | h3
              · have e : n.toNat = 1 := by have := eq_of_beq h3; omega
                rw [e]
                simp [repS]
              · have e : a.cps.toList = [] := by
                  have := eq_of_beq h3
                  exact List.eq_nil_of_length_eq_zero (by simpa [Str.length] using this)
                have e2 : a = ⟨#[]⟩ := by
                  cases a with
                  | mk c =>
                    have : c = #[] := by simpa using e
                    rw [this]
                rw [e2]
                simp [repS]
            rw [e] at kk
            exact kk
          · rw [if_neg h2]
            have e : (⟨(List.replicate n.toNat a.cps).foldl (· ++ ·) #[]⟩ : Str) = repS a n.toNat := by
              rw [rep_fold]
              simp [repS]
            rw [e]
            refine ⟨?_, .str _, H, I.tok _, ⟨_, rfl⟩, kk⟩
            have hl : (repS a n.toNat).length = n.toNat * a.length := by
              show (List.replicate n.toNat a.cps.toList).flatten.toArray.size = _
              rw [List.size_toArray, List.length_flatten, List.map_replicate, List.sum_replicate_nat]
              rfl
            have h4 : n.toNat * a.length ≤ 100000 * 100 := Nat.mul_le_mul (by omega) al
            rw [hl, sizeLine_eq]
            omega
    | _ => exact hq.elim
  | lst h1 t1 =>
    cases hy with
    | int n =>
      obtain ⟨⟨n0, n1, n2⟩, hq⟩ := hq
      refine op_rep pins s σ H _ _ v u P I rx ry ⟨_, _, _, rfl, rfl, j.ex _ _ h1, n0, n1, by rw [t1.len]; exact n2, fun p hp => ?_⟩
      exact k _ _ (upd G p _) _ hq (Gr.new j hp) (.lst upd_same ((t1.rep _).mono (Ex.new (fresh_back j.ex hp))))
    | _ => exact hq.elim
  | _ => exact hq.elim
def oIx : O2 := fun x y Q => match x, y with
  | .lst xs, .int i => match atI xs i with
    | some d => Q d
    | none => False
  | .tup xs, .int i => match atI xs i with
    | some d => Q d
    | none => False
  | .str a, .int i => a.length ≤ sizeLine ∧ match atI a.cps.toList i with
    | some c => Q (.str ⟨#[c]⟩)
    | none => False
  | _, _ => False
theorem Dats.at {K : PySem.W.Frag} {G : Hp} {vs : List V} {ds : List D} {i : Int} {d : D} (h : Dats K B G vs ds) (e : atI ds i = some d) : ∃ v, atI vs i = some v ∧ Dat K B G v d := by
  unfold atI at e ⊢
  rw [h.len]
  cases hi : ixN ds.length i with
  | none => rw [hi] at e; cases e
  | some m =>
    rw [hi] at e
    exact h.get e
theorem ix_d : IxR X (rLift X.K B oIx) := by
  intro va sl pins s σ H x y v u P I rx ry q hsub
  obtain ⟨G, dx, dy, Q, j, hx, hy, hq, k⟩ := q
  cases hx with
  | @lst a xs ds h1 t1 =>
    cases hy with
    | int i =>
      have hq : (match atI ds i with | some d => Q d | none => False) := hq
      cases e : atI ds i with
      | none => rw [e] at hq; exact hq.elim
      | some d =>
        rw [e] at hq
        obtain ⟨w, e2, hw⟩ := t1.at e
        exact ix_list va sl pins s σ H _ _ v u P I rx ry ⟨_, _, i, w, rfl, rfl, sq_of (j.ex _ _ h1), e2, k _ _ G H hq (Gr.refl j) hw⟩ hsub
    | _ => exact hq.elim
  | @tup a xs ds h1 t1 =>
    cases hy with
    | int i =>
      have hq : (match atI ds i with | some d => Q d | none => False) := hq
      cases e : atI ds i with
      | none => rw [e] at hq; exact hq.elim
      | some d =>
        rw [e] at hq
        obtain ⟨w, e2, hw⟩ := t1.at e
        exact ix_tup va sl pins s σ H _ _ v u P I rx ry ⟨_, _, i, w, rfl, rfl, tx j.ex h1, e2, k _ _ G H hq (Gr.refl j) hw⟩ hsub
    | _ => exact hq.elim
  | str a =>
    cases hy with
    | int i =>
      have hq : a.length ≤ sizeLine ∧ (match atI a.cps.toList i with | some c => Q (.str ⟨#[c]⟩) | none => False) := hq
      obtain ⟨hz, hq⟩ := hq
      cases e : atI a.cps.toList i with
      | none => rw [e] at hq; exact hq.elim
      | some c =>
        rw [e] at hq
        exact ix_str va sl pins s σ H _ _ v u P I rx ry ⟨a, i, c, rfl, rfl, hz, e, k _ _ G H hq (Gr.refl j) (.str _)⟩ hsub
    | _ => exact hq.elim
  | _ => exact hq.elim
abbrev DO := DS → (Option Int → Prop) → Prop
def liftO (K : PySem.W.Frag) (B : Bx) (r : DO) : TO := fun σ H P => ∃ (H0 G : Hp) (δ : DS) (Q : Option Int → Prop), Jn K B G H ∧ StOk K B H0 G H σ δ ∧ r δ Q ∧ ∀ o G2 H2, Q o → Gr K B G H G2 H2 → P o H2
abbrev POD (X : Cx) (B : Bx) (e : Option Expr) (r : DO) : Prop := PO X e (liftO X.K B r)
def noP : DO := fun _ Q => Q none
def aP (r : DE) : DO := fun δ Q => r δ fun x => match x with
  | .int i => Q (some i)
  | _ => False
theorem po_mono {e : Option Expr} {t t' : TO} (h : PO X e t) (m : ∀ σ H Q, t' σ H Q → t σ H Q) : PO X e t' := ⟨fun pins s σ H Q I hw => h.run pins s σ H Q I (m σ H Q hw)⟩
theorem pod_none : POD X B none noP := po_mono po_none fun σ H P q => by
  obtain ⟨H0, G, δ, Q, j, st, hr, k⟩ := q
  exact k none G H hr (Gr.refl j)
theorem pod_some {e : Expr} {r : DE} (h : PD X B e r) : POD X B (some e) (aP r) := po_mono (po_some h) fun σ H P q => by
  obtain ⟨H0, G, δ, Q, j, st, hr, k⟩ := q
  refine ⟨H0, G, δ, _, j, st, hr, fun d v G2 H2 q2 g2 h2 => ?_⟩
  cases h2 with
  | int i => exact ⟨i, rfl, k _ G2 H2 q2 g2⟩
  | _ => exact q2.elim
def cut {α : Type} (xs : List α) (lo hi : Option Int) : List α := (xs.drop (HT.sIx xs.length 0 lo)).take (HT.sIx xs.length xs.length hi - HT.sIx xs.length 0 lo)
def oSl (x : D) (lo hi : Option Int) (Q : D → Prop) : Prop := match x with
  | .lst xs => Q (.lst (cut xs lo hi))
  | .tup xs => Q (.tup (cut xs lo hi))
  | .str a => a.length ≤ sizeLine ∧ Q (.str ⟨(cut a.cps.toList lo hi).toArray⟩)
  | _ => False
def dSl (r : DE) (lo hi : DO) : DE := fun δ Q => r δ fun x => lo δ fun l => hi δ fun h => oSl x l h Q
theorem Dats.cut {K : PySem.W.Frag} {G : Hp} {vs : List V} {ds : List D} (h : Dats K B G vs ds) (lo hi : Option Int) : Dats K B G (cutV vs lo hi) (DL.cut ds lo hi) := by
  unfold cutV DL.cut
  rw [h.len]
  exact (h.drop _).take _
theorem sl_d : SlR X (fun x lo hi H P => ∃ (G : Hp) (dx : D) (Q : D → Prop), Jn X.K B G H ∧ Dat X.K B G x dx ∧ oSl dx lo hi Q ∧ ∀ d v G2 H2, Q d → Gr X.K B G H G2 H2 → Dat X.K B G2 v d → P v H2) := by
  intro pins s σ H x v vl vu lo hi sl P I rx r1 r2 r3 q
  obtain ⟨G, dx, Q, j, hx, hq, k⟩ := q
  cases hx with
  | lst h1 t1 =>
    refine sl_list pins s σ H _ v vl vu lo hi sl P I rx r1 r2 r3 ⟨_, _, rfl, sq_of (j.ex _ _ h1), fun p hp => ?_⟩
    exact k _ _ (upd G p _) _ hq (Gr.new j hp) (.lst upd_same ((t1.cut _ _).mono (Ex.new (fresh_back j.ex hp))))
  | tup h1 t1 =>
    refine sl_tupA pins s σ H _ v vl vu lo hi sl P I rx r1 r2 r3 ⟨_, _, rfl, tx j.ex h1, fun w => ?_, fun _ p hp => ?_⟩
    · rename_i a xs ds
      have e : cut ds lo hi = ds := by
        unfold DL.cut
        rw [← t1.len, w.1, w.2, List.drop_zero, Nat.sub_zero, t1.len, List.take_length]
      have hq : Q (.tup (cut ds lo hi)) := hq
      rw [e] at hq
      exact k _ _ G H hq (Gr.refl j) (.tup h1 t1)
    · exact k _ _ (upd G p _) _ hq (Gr.new j hp) (.tup upd_same ((t1.cut _ _).mono (Ex.new (fresh_back j.ex hp))))
  | str a =>
    exact sl_str pins s σ H _ v vl vu lo hi sl P I rx r1 r2 r3 ⟨a, rfl, hq.1, k _ _ G H hq.2 (Gr.refl j) (.str _)⟩
  | _ => exact hq.elim
theorem pd_slice {e : Expr} {lo hi : Option Expr} {r : DE} {rl rh : DO} {p2 pos : Pos} (he : PD X B e r) (hl : POD X B lo rl) (hh : POD X B hi rh) : PD X B (.Subscript e (.Slice lo hi none p2) pos) (dSl r rl rh) := pe_mono (pe_slice sl_d he hl hh) fun σ H P q => by
  obtain ⟨H0, G, δ, Q, j, st, hr, k⟩ := q
  refine ⟨H0, G, δ, _, j, st, hr, fun d v G2 H2 q2 g2 h2 => ?_⟩
  refine ⟨H0, G2, δ, _, g2.j, st.gr g2, q2, fun l G3 H3 q3 g3 => ?_⟩
  refine ⟨H0, G3, δ, _, g3.j, (st.gr g2).gr g3, q3, fun h G4 H4 q4 g4 => ?_⟩
  exact ⟨G4, d, Q, g4.j, h2.mono (g3.ex.trans g4.ex), q4, fun d' v' G5 H5 q5 g5 h5 => k d' v' G5 H5 q5 (((g2.trans g3).trans g4).trans g5) h5⟩
def isFlat : D → Bool
  | .non => true
  | .bl _ => true
  | .int _ => true
  | .str _ => true
  | _ => false
def eqF : D → D → Bool
  | .non, .non => true
  | .bl a, .bl b => a == b
  | .bl a, .int b => (if a then 1 else 0) == b
  | .int a, .bl b => a == (if b then 1 else 0)
  | .int a, .int b => a == b
  | .str a, .str b => a == b
  | _, _ => false
def inD (x : D) (xs : List D) : Bool := xs.any fun y => eqF y x
theorem flat_v {K : PySem.W.Frag} {G : Hp} {v : V} {d : D} (h : Dat K B G v d) (f : isFlat d = true) : flatV v = true := by
  cases h <;> first | rfl | cases f
theorem eq_v {K : PySem.W.Frag} {G : Hp} {v w : V} {d e : D} (h : Dat K B G v d) (h2 : Dat K B G w e) (f : isFlat d = true) (f2 : isFlat e = true) : eqV v w = eqF d e := by
  cases h with
  | non => cases h2 <;> first | rfl | cases f2
  | bl _ => cases h2 <;> first | rfl | cases f2
  | int _ => cases h2 <;> first | rfl | cases f2
  | str _ => cases h2 <;> first | rfl | cases f2
  | _ => cases f
theorem flats_v {K : PySem.W.Frag} {G : Hp} : ∀ {vs : List V} {ds : List D}, Dats K B G vs ds → ds.all isFlat = true → vs.all flatV = true
  | _, _, .nil, _ => rfl
  | _, _, .cons h t, f => by
    have f' := Bool.and_eq_true_iff.mp (show (isFlat _ && List.all _ isFlat) = true from f)
    rw [List.all_cons, flat_v h f'.1, flats_v t f'.2]
    rfl
theorem in_v {K : PySem.W.Frag} {G : Hp} {v : V} {d : D} (hv : Dat K B G v d) (fv : isFlat d = true) : ∀ {vs : List V} {ds : List D}, Dats K B G vs ds → ds.all isFlat = true → inV v vs = inD d ds
  | _, _, .nil, _ => rfl
  | _, _, .cons h t, f => by
    have f' := Bool.and_eq_true_iff.mp (show (isFlat _ && List.all _ isFlat) = true from f)
    have ih := in_v hv fv t f'.2
    unfold inV inD at ih ⊢
    rw [List.any_cons, List.any_cons, ih, eq_v h hv f'.1 fv]
def oIn (neg : Bool) : O2 := fun x y Q => match y with
  | .str z => match x with
    | .str w => match w.cps.toList with
      | [c] => Q (.bl (if neg then !decide (c ∈ z.cps.toList) else decide (c ∈ z.cps.toList)))
      | _ => False
    | _ => False
  | .lst ys => (isFlat x = true ∧ ys.all isFlat = true) ∧ Q (.bl (if neg then !inD x ys else inD x ys))
  | .tup ys => (isFlat x = true ∧ ys.all isFlat = true) ∧ Q (.bl (if neg then !inD x ys else inD x ys))
  | .ktup ys => (isFlat x = true ∧ ys.all isFlat = true) ∧ Q (.bl (if neg then !inD x ys else inD x ys))
  | _ => False
theorem sign_of {w : Str} {c : Nat} (h : w.cps.toList = [c]) : w = ⟨#[c]⟩ := by
  cases w with
  | mk cp =>
    have : cp = #[c] := by
      have : cp.toList = [c] := h
      rw [← Array.toList_inj]
      exact this
    rw [this]
theorem op_in_d : OpR X (compareOp .In) (rLift X.K B (oIn false)) := by
  intro pins s σ H x y v u P I rx ry q
  obtain ⟨G, dx, dy, Q, j, hx, hy, hq, k⟩ := q
  cases hy with
  | str z =>
    cases hx with
    | str w =>
      have hq : (match w.cps.toList with | [c] => Q (.bl (decide (c ∈ z.cps.toList))) | _ => False) := hq
      cases e : w.cps.toList with
      | nil => rw [e] at hq; exact hq.elim
      | cons c r =>
        cases r with
        | cons _ _ => rw [e] at hq; exact hq.elim
        | nil =>
          rw [e] at hq
          exact op_in_sign pins s σ H _ _ v u P I rx ry ⟨c, z, by rw [sign_of e], rfl, k _ _ G H hq (Gr.refl j) (.bl _)⟩
    | _ => exact hq.elim
  | lst h1 t1 =>
    obtain ⟨⟨f1, f2⟩, hq⟩ := hq
    refine op_in_seq pins s σ H _ _ v u P I rx ry ⟨_, _, rfl, .inl (sq_of (j.ex _ _ h1)), flat_v hx f1, flats_v t1 f2, ?_⟩
    have e := in_v hx f1 t1 f2
    rw [e]
    exact k _ _ G H hq (Gr.refl j) (.bl _)
  | tup h1 t1 =>
    obtain ⟨⟨f1, f2⟩, hq⟩ := hq
    refine op_in_seq pins s σ H _ _ v u P I rx ry ⟨_, _, rfl, .inr (tx j.ex h1), flat_v hx f1, flats_v t1 f2, ?_⟩
    have e := in_v hx f1 t1 f2
    rw [e]
    exact k _ _ G H hq (Gr.refl j) (.bl _)
  | ktup h1 t1 =>
    obtain ⟨⟨f1, f2⟩, hq⟩ := hq
    refine op_in_seq pins s σ H _ _ v u P I rx ry ⟨_, _, rfl, .inr (ex_t j.ex h1), flat_v hx f1, flats_v t1 f2, ?_⟩
    have e := in_v hx f1 t1 f2
    rw [e]
    exact k _ _ G H hq (Gr.refl j) (.bl _)
  | _ => exact hq.elim
def cLen : FD := fun ds Q => match ds with
  | [.lst xs] => Q (.int xs.length)
  | [.tup xs] => Q (.int xs.length)
  | [.str a] => a.length ≤ sizeLine ∧ Q (.int a.length)
  | _ => False
theorem call_len_d : CallR X (.builtin "len") (cLift X.K B cLen) := by
  intro pins s σ H vs us P I rv q
  obtain ⟨G, ds, Q, j, hd, hq, k⟩ := q
  cases hd with
  | nil => exact hq.elim
  | cons h1 h2 =>
    cases h2 with
    | cons _ _ => cases h1 <;> exact hq.elim
    | nil =>
      cases h1 with
      | lst a t => exact call_len_seq pins s σ H _ us P I rv ⟨_, _, rfl, .inl (sq_of (j.ex _ _ a)), by rw [t.len]; exact k _ _ G H hq (Gr.refl j) (.int _)⟩
      | tup a t => exact call_len_seq pins s σ H _ us P I rv ⟨_, _, rfl, .inr (tx j.ex a), by rw [t.len]; exact k _ _ G H hq (Gr.refl j) (.int _)⟩
      | str a => exact call_len_str pins s σ H _ us P I rv ⟨a, rfl, hq.1, k _ _ G H hq.2 (Gr.refl j) (.int _)⟩
      | _ => exact hq.elim
def cInt : FD := fun ds Q => match ds with
  | [.int i] => Q (.int i)
  | [.bl b] => Q (.int (if b then 1 else 0))
  | [.str a] => match intText? a with
    | some n => a.length ≤ 640 ∧ Q (.int n)
    | none => False
  | _ => False
theorem call_int_d : CallR X (.type "int") (cLift X.K B cInt) := by
  intro pins s σ H vs us P I rv q
  obtain ⟨G, ds, Q, j, hd, hq, k⟩ := q
  cases hd with
  | nil => exact hq.elim
  | cons h1 h2 =>
    cases h2 with
    | cons _ _ => cases h1 <;> exact hq.elim
    | nil =>
      cases h1 with
      | int i => exact call_int1 pins s σ H _ us P I rv (.inl ⟨i, rfl, k _ _ G H hq (Gr.refl j) (.int _)⟩)
      | bl b => exact call_int1 pins s σ H _ us P I rv (.inr ⟨b, rfl, k _ _ G H hq (Gr.refl j) (.int _)⟩)
      | str a =>
        have hq : (match intText? a with | some n => a.length ≤ 640 ∧ Q (.int n) | none => False) := hq
        cases e : intText? a with
        | none => rw [e] at hq; exact hq.elim
        | some n =>
          rw [e] at hq
          exact call_int_str pins s σ H _ us P I rv ⟨a, n, rfl, e, hq.1, k _ _ G H hq.2 (Gr.refl j) (.int _)⟩
      | _ => exact hq.elim
def cAbs : FD := fun ds Q => match ds with
  | [.int i] => Q (.int (if i < 0 then -i else i))
  | _ => False
def cMax : FD := fun ds Q => match ds with
  | [.int i, .int j] => Q (.int (if j > i then j else i))
  | _ => False
def blsOf : List D → Option (List Bool)
  | [] => some []
  | .bl b :: r => (blsOf r).map (b :: ·)
  | _ :: _ => none
theorem bls_v {K : PySem.W.Frag} {G : Hp} : ∀ {vs : List V} {ds : List D} {bs : List Bool}, Dats K B G vs ds → blsOf ds = some bs → vs = bs.map V.bl
  | _, _, bs, .nil, e => by cases e; rfl
  | _, _, bs, .cons h t, e => by
    cases h with
    | bl b =>
      have e : (blsOf _).map (b :: ·) = some bs := e
      cases h2 : blsOf _ with
      | none => rw [h2] at e; cases e
      | some cs =>
        rw [h2] at e
        cases e
        rw [bls_v t h2]
        rfl
    | _ => cases e
def cAll : FD := fun ds Q => match ds with
  | [.lst xs] => match blsOf xs with
    | some bs => Q (.bl (bs.all id))
    | none => False
  | _ => False
def cAny : FD := fun ds Q => match ds with
  | [.lst xs] => match blsOf xs with
    | some bs => Q (.bl (bs.any id))
    | none => False
  | _ => False
theorem call_all_d (hc : X.calm = true) : CallR X (.builtin "all") (cLift X.K B cAll) := by
  intro pins s σ H vs us P I rv q
  obtain ⟨G, ds, Q, j, hd, hq, k⟩ := q
  cases hd with
  | nil => exact hq.elim
  | cons h1 h2 =>
    cases h2 with
    | cons _ _ => cases h1 <;> exact hq.elim
    | nil =>
      cases h1 with
      | @lst a vs xs ha t =>
        have hq : (match blsOf xs with | some bs => Q (.bl (bs.all id)) | none => False) := hq
        cases e : blsOf xs with
        | none => rw [e] at hq; exact hq.elim
        | some bs =>
          rw [e] at hq
          have e2 := bls_v t e
          subst e2
          exact cr_all hc pins s σ H _ us P I rv ⟨a, bs, rfl, sq_of (j.ex _ _ ha), k _ _ G H hq (Gr.refl j) (.bl _)⟩
      | _ => exact hq.elim
end
end DL
namespace DL
open PySem PySem.Spec PyProof.Rows L2 Evl
section
variable {X : Cx} {B : Bx} {e : Expr} {es : List Expr} {r : DE} {pos : Pos}
def tyN : D → String
  | .non => "NoneType"
  | .bl _ => "bool"
  | .int _ => "int"
  | .str _ => "str"
  | .lst _ => "list"
  | .tup _ => "tuple"
  | .dic _ => "dict"
  | .obj _ _ => ""
  | .bag => "list"
  | .ktup _ => "tuple"
def isi (T : String) (d : D) : Bool := match d with
  | .bl _ => T == "bool" || T == "int"
  | d => tyN d == T
def pureD : D → Bool
  | .obj _ _ => false
  | .bag => false
  | .ktup _ => false
  | _ => true
def dIsi (T : String) (r : DE) : DE := fun δ Q => r δ fun d => match pureD d with
  | true => Q (.bl (isi T d))
  | false => False
def TyY (K : PySem.W.Frag) (H : Hp) (v : V) (T : String) : Prop := TyX K H v (.type T) ∨ ∃ a od kvs, v = .ref a ∧ H a = some (.frz od (.dT kvs)) ∧ T = "dict"
def rIsiD (K : PySem.W.Frag) : List V → Hp → VK → Prop := fun xs H Q => ∃ (x c : V) (T : String) (u : Value) (b : Bool), xs = [x, c] ∧ ClsV c u ∧ TyY K H x T ∧ PySem.W.kitOne K (.type T) u = some b ∧ Q (.bl b) H
theorem call_isiD : CallR X (.builtin "isinstance") (rIsiD X.K) := by
  intro pins s σ H xs us Q I r h
  obtain ⟨x, c, T, u, b, rfl, k, ty, e, q⟩ := h
  rcases ty with ty | ⟨a, od, kvs, rfl, ha, rfl⟩
  · exact call_isi pins s σ H _ us Q I r ⟨x, c, _, u, b, rfl, k, ty, e, q⟩
  · obtain ⟨u1, u2, rfl, r1, r2⟩ := vals2 r
    have e2 := k.eq r2
    subst e2
    cases (show u1 = Value.ref a from r1)
    obtain ⟨_, _, _, _, _, o, es, ep, h1, h2, _⟩ := (show ObjOk X.prog X.w H s.heap a (.frz od (.dT kvs)) from I.hok a _ ha)
    exact PySem.W.kia_one PySem.W.kitx_dict I.kIn ⟨o, h1, h2.1⟩ e (fun z => nomatch z) fun tk => ⟨.bl b, H, I.tok tk, rfl, q⟩
theorem ty_d {K : PySem.W.Frag} {G H : Hp} {v : V} {d : D} (e : Ex G H) (h : Dat K B G v d) (p : pureD d = true) : TyY K H v (tyN d) := by
  cases h with
  | non => exact .inl (.base .non)
  | bl b => exact .inl (.base (.bl b))
  | int i => exact .inl (.base (.int i))
  | str x => exact .inl (.base (.str x))
  | lst h t => exact .inl (.base (.lst (e _ _ h)))
  | tup h t => exact .inl (.base (.tup (e _ _ h)))
  | dK h t => exact .inl (.fDict (e _ _ h))
  | dT h t => exact .inr ⟨_, _, _, rfl, e _ _ h, rfl⟩
  | bag => cases p
  | ktup _ _ => cases p
  | obj _ _ _ => cases p
def knownTy (T : String) : Prop := ∀ d : D, pureD d = true → kitB (tyN d) T = some (isi T d)
theorem known_int : knownTy "int"
  | .non, _ => (by decide +kernel : kitB "NoneType" "int" = some false)
  | .bl _, _ => (by decide +kernel : kitB "bool" "int" = some true)
  | .int _, _ => (by decide +kernel : kitB "int" "int" = some true)
  | .str _, _ => (by decide +kernel : kitB "str" "int" = some false)
  | .lst _, _ => (by decide +kernel : kitB "list" "int" = some false)
  | .tup _, _ => (by decide +kernel : kitB "tuple" "int" = some false)
  | .dic _, _ => (by decide +kernel : kitB "dict" "int" = some false)
  | .obj _ _, p => nomatch p
  | .bag, p => nomatch p
  | .ktup _, p => nomatch p
theorem known_bool : knownTy "bool"
  | .non, _ => (by decide +kernel : kitB "NoneType" "bool" = some false)
  | .bl _, _ => (by decide +kernel : kitB "bool" "bool" = some true)
  | .int _, _ => (by decide +kernel : kitB "int" "bool" = some false)
  | .str _, _ => (by decide +kernel : kitB "str" "bool" = some false)
  | .lst _, _ => (by decide +kernel : kitB "list" "bool" = some false)
  | .tup _, _ => (by decide +kernel : kitB "tuple" "bool" = some false)
  | .dic _, _ => (by decide +kernel : kitB "dict" "bool" = some false)
  | .obj _ _, p => nomatch p
  | .bag, p => nomatch p
  | .ktup _, p => nomatch p
theorem known_str : knownTy "str"
  | .non, _ => (by decide +kernel : kitB "NoneType" "str" = some false)
  | .bl _, _ => (by decide +kernel : kitB "bool" "str" = some false)
  | .int _, _ => (by decide +kernel : kitB "int" "str" = some false)
  | .str _, _ => (by decide +kernel : kitB "str" "str" = some true)
  | .lst _, _ => (by decide +kernel : kitB "list" "str" = some false)
  | .tup _, _ => (by decide +kernel : kitB "tuple" "str" = some false)
  | .dic _, _ => (by decide +kernel : kitB "dict" "str" = some false)
  | .obj _ _, p => nomatch p
  | .bag, p => nomatch p
  | .ktup _, p => nomatch p
theorem known_tuple : knownTy "tuple"
  | .non, _ => (by decide +kernel : kitB "NoneType" "tuple" = some false)
  | .bl _, _ => (by decide +kernel : kitB "bool" "tuple" = some false)
  | .int _, _ => (by decide +kernel : kitB "int" "tuple" = some false)
  | .str _, _ => (by decide +kernel : kitB "str" "tuple" = some false)
  | .lst _, _ => (by decide +kernel : kitB "list" "tuple" = some false)
  | .tup _, _ => (by decide +kernel : kitB "tuple" "tuple" = some true)
  | .dic _, _ => (by decide +kernel : kitB "dict" "tuple" = some false)
  | .obj _ _, p => nomatch p
  | .bag, p => nomatch p
  | .ktup _, p => nomatch p
theorem pd_isi {T : String} {tn : Str} {p q : Pos} (kn : knownTy T) (hg : Gl X "isinstance") (hm : X.mg "isinstance" = none) (hgT : Gl X tn) (hmT : X.mg tn = none) (hvT : bootBuiltins tn = some (.type T)) (he : PD X B e r) (hn : tn ≠ "__name__" := by decide) (hdb : (tn == ("__debug__" : Str)) = false := by decide)
    (hs1 : starEach [e, .Name tn q] X.env = (false, eval e X.env) :: starEach [.Name tn q] X.env := by rfl) (hs2 : starEach [.Name tn q] X.env = (false, eval (.Name tn q) X.env) :: starEach [] X.env := by rfl) (hpl : (backTo pos (starEach [.Name tn q] X.env)).any (·.1) = false := by rfl) :
    PD X B (.Call (.Name "isinstance" p) [e, .Name tn q] [] pos) (dIsi T r) := pe_mono (pe_callB call_isiD hg hm (by decide +kernel) (pa_cons he (pa_cons (pe_bltn (v := .ty T) hgT hmT hvT rfl hn hdb) pa_nil hs2) hs1) (by decide) (by decide) hs1 hpl) fun σ H P q => by
  obtain ⟨H0, G, δ, Q, j, st, hr, k⟩ := q
  refine ⟨H0, G, δ, _, j, st, hr, fun d v G2 H2 q2 g2 h2 => ?_⟩
  have q2 : (match pureD d with | true => Q (.bl (isi T d)) | false => False) := q2
  cases hp : pureD d with
  | false => rw [hp] at q2; exact q2.elim
  | true =>
    rw [hp] at q2
    exact ⟨v, .ty T, _, .type T, _, rfl, .ty T, ty_d g2.j.ex h2 hp, kit_ty (kn d hp), k _ _ G2 H2 q2 g2 (.bl _)⟩
abbrev OM := D → List D → (D → Prop) → Prop
def mLift (K : PySem.W.Frag) (B : Bx) (r : OM) : V → List V → Hp → VK → Prop := fun x xs H P => ∃ (G : Hp) (d : D) (ds : List D) (Q : D → Prop), Jn K B G H ∧ Dat K B G x d ∧ Dats K B G xs ds ∧ r d ds Q ∧ ∀ d v G2 H2, Q d → Gr K B G H G2 H2 → Dat K B G2 v d → P v H2
def isT (T : String) : D → Bool
  | .str _ => T == "str"
  | .int _ => T == "int"
  | .lst _ => T == "list"
  | _ => false
def dMt (T : String) (m : OM) (r : DE) (ra : DA) : DE := fun δ Q => r δ fun x => match isT T x with
  | true => ra δ fun ds => m x ds Q
  | false => False
theorem tyv_d {K : PySem.W.Frag} {G H : Hp} {T : String} {v : V} {d : D} (e : Ex G H) (h : Dat K B G v d) (t : isT T d = true) : tyV K T v H := by
  cases h with
  | str x => exact eq_of_beq t
  | int i => exact eq_of_beq t
  | lst h _ => exact .inl ⟨eq_of_beq t, _, sq_of (e _ _ h)⟩
  | _ => cases t
theorem pd_bm {T id : String} {m : OM} {ra : DA} {o : Expr} {name : Str} {apos : Pos} (pa : PlainAttrs T) (slot : Slot T name id) (hty : typeOf (.builtin id) = pure (.type "method_descriptor")) (hm : MtR X id (mLift X.K B m)) (ho : PD X B o r) (ha : PAD X B (e :: es) ra)
    (hbase : attributeBase o name X.env (eval o X.env) = eval o X.env := by rfl)
    (hfew : ((backTo pos (starEach (e :: es) X.env)).all (fun x => !x.1) && (backToKw pos (keywordEach [] X.env)).all (fun x => x.1.isSome) && decide ((e :: es).length + ([] : List Keyword).length + (if ([] : List Keyword).isEmpty then 0 else 1) < 30)) = true := by rfl)
    (hline : (apos.endLine == pos.line) = true := by rfl) (hs : starEach (e :: es) X.env = (false, eval e X.env) :: starEach es X.env := by rfl) (hplain : (backTo pos (starEach es X.env)).any (·.1) = false := by rfl) :
    PD X B (.Call (.Attribute o name apos) (e :: es) [] pos) (dMt T m r ra) := pe_mono (pe_bm pa slot hty hm ho ha hbase hfew hline hs hplain) fun σ H P q => by
  obtain ⟨H0, G, δ, Q, j, st, hr, k⟩ := q
  refine ⟨H0, G, δ, _, j, st, hr, fun d v G2 H2 q2 g2 h2 => ?_⟩
  have q2 : (match isT T d with | true => ra δ fun ds => m d ds Q | false => False) := q2
  cases ht : isT T d with
  | false => rw [ht] at q2; exact q2.elim
  | true =>
    rw [ht] at q2
    refine ⟨tyv_d g2.j.ex h2 ht, H0, G2, δ, _, g2.j, st.gr g2, q2, fun ds vs G3 H3 q3 g3 h3 => ?_⟩
    exact ⟨G3, d, ds, Q, g3.j, h2.mono g3.ex, h3, q3, fun d' v' G4 H4 q4 g4 h4 => k d' v' G4 H4 q4 ((g2.trans g3).trans g4) h4⟩
def strsOf : List D → Option (List Str)
  | [] => some []
  | .str x :: r => (strsOf r).map (x :: ·)
  | _ :: _ => none
theorem strs_v {K : PySem.W.Frag} {G : Hp} : ∀ {vs : List V} {ds : List D} {xs : List Str}, Dats K B G vs ds → strsOf ds = some xs → vs = xs.map V.str
  | _, _, xs, .nil, e => by cases e; rfl
  | _, _, xs, .cons h t, e => by
    cases h with
    | str b =>
      have e : (strsOf _).map (b :: ·) = some xs := e
      cases h2 : strsOf _ with
      | none => rw [h2] at e; cases e
      | some cs =>
        rw [h2] at e
        cases e
        rw [strs_v t h2]
        rfl
    | _ => cases e
def mJoin : OM := fun x ds Q => match x, ds with
  | .str a, [.lst xs] => match strsOf xs with
    | some ys => (ys.map (·.length)).sum + ys.length * a.length ≤ 16777216 ∧ Q (.str (Txt.join a ys))
    | none => False
  | _, _ => False
theorem mt_join_d : MtR X "str.join" (mLift X.K B mJoin) := by
  intro pins s σ H x xs v us P I rx rs q
  obtain ⟨G, d, ds, Q, j, hx, hd, hq, k⟩ := q
  cases hx with
  | str a =>
    cases hd with
    | nil => exact hq.elim
    | cons h1 h2 =>
      cases h2 with
      | cons _ _ => cases h1 <;> exact hq.elim
      | nil =>
        cases h1 with
        | @lst p vs ys hp t =>
          have hq : (match strsOf ys with | some zs => (zs.map (·.length)).sum + zs.length * a.length ≤ 16777216 ∧ Q (.str (Txt.join a zs)) | none => False) := hq
          cases e : strsOf ys with
          | none => rw [e] at hq; exact hq.elim
          | some zs =>
            rw [e] at hq
            have e2 := strs_v t e
            subst e2
            exact mt_join pins s σ H _ _ v us P I rx rs ⟨a, p, zs, rfl, rfl, .inl (sq_of (j.ex _ _ hp)), hq.1, k _ _ G H hq.2 (Gr.refl j) (.str _)⟩
        | _ => exact hq.elim
  | _ => exact hq.elim
def mCount : OM := fun x ds Q => match x, ds with
  | .lst xs, [y] => (isFlat y = true ∧ xs.all isFlat = true) ∧ Q (.int ((xs.countP fun z => eqF z y : Nat) : Int))
  | _, _ => False
def cTuple : FD := fun ds Q => match ds with
  | [.lst xs] => Q (.tup xs)
  | [.tup xs] => Q (.tup xs)
  | _ => False
theorem call_tuple_d : CallR X (.type "tuple") (cLift X.K B cTuple) := by
  intro pins s σ H vs us P I rv q
  obtain ⟨G, ds, Q, j, hd, hq, k⟩ := q
  cases hd with
  | nil => exact hq.elim
  | cons h1 h2 =>
    cases h2 with
    | cons _ _ => cases h1 <;> exact hq.elim
    | nil =>
      cases h1 with
      | lst a t => exact call_tuple_of pins s σ H _ us P I rv ⟨_, _, rfl, .inl ⟨sq_of (j.ex _ _ a), fun p hp => k _ _ (upd G p _) _ hq (Gr.new j hp) (.tup upd_same (t.mono (Ex.new (fresh_back j.ex hp))))⟩⟩
      | tup a t => exact call_tuple_of pins s σ H _ us P I rv ⟨_, _, rfl, .inr ⟨tx j.ex a, k _ _ G H hq (Gr.refl j) (.tup a t)⟩⟩
      | _ => exact hq.elim
def gL (n : Nat) (gs : DGs) : DG := fun d δ Q => match d with
  | .lst ds => match decide (ds.length = n) with
    | true => gs ds δ Q
    | false => False
  | _ => False
def dStar (r : DE) (ra : DA) : DA := fun δ Q => r δ fun x => match x with
  | .tup xs => ra δ fun ys => Q (xs ++ ys)
  | .lst xs => ra δ fun ys => Q (xs ++ ys)
  | _ => False
end
end DL
namespace DL
open PySem PySem.Spec PyProof.Rows L2 Evl
theorem obj_slt {K : PySem.W.Frag} {B : Bx} {G H : Hp} {a dx : Addr} {C : Nat} {vs : List V} (e : Ex G H) (h1 : G a = some (SlX.SlO a (B.ct C) dx (vs.map some))) (h2 : G dx = some (.xd []))   : SlX.Slt H a (B.ct C) dx (vs.map some) := .inr ⟨e _ _ h1, e _ _ h2⟩
section
variable {X : Cx} {B : Bx} {e o : Expr} {es : List Expr} {r : DE} {pos : Pos} {p g : Addr} {f m : Str} {i k C : Nat} {S : FD} {ra : DA} {E : XK}
def dFld (C : Nat) (i : Nat) (r : DE) : DE := fun δ Q => r δ fun d => match d with
  | .obj C' fs => C' = C ∧ (match fs[i]? with
    | some d => Q d
    | none => False)
  | _ => False
theorem pd_fld (c : SlX.SCls X.K (B.ct C)) (t : SlX.Slot1 X.K (B.ct C) f p i) (he : PD X B e r) (hb : attributeBase e f X.env (eval e X.env) = eval e X.env := by rfl) : PD X B (.Attribute e f pos) (dFld C i r) := pe_mono (SlX.pe_sl he hb) fun σ H P q => by
  obtain ⟨H0, G, δ, Q, j, st, hr, k⟩ := q
  refine ⟨H0, G, δ, _, j, st, hr, fun d v G2 H2 q2 g2 h2 => ?_⟩
  cases h2 with
  | @obj a dx C' vs fs h3 h4 h5 =>
    obtain ⟨rfl, q2⟩ := q2
    cases hf : fs[i]? with
    | none => rw [hf] at q2; exact q2.elim
    | some d =>
      rw [hf] at q2
      obtain ⟨u, e1, e2⟩ := h5.get hf
      exact ⟨a, B.ct C', dx, p, vs.map some, i, u, rfl, obj_slt (K := X.K) (B := B) g2.j.ex h3 h4, c, t, by rw [List.getElem?_map, e1]; rfl, k _ _ G2 H2 q2 g2 e2⟩
  | _ => exact q2.elim
def isO (C : Nat) (d : D) : Prop := match d with
  | .obj C' _ => C' = C
  | _ => False
def dProp (C : Nat) (S : FD) (r : DE) : DE := fun δ Q => r δ fun d => isO C d ∧ S [d] Q
theorem pd_prop (c : SlX.SCls X.K (B.ct C)) (at_ : PySem.W.findIn X.K (.ref (B.ct C)) f = some (some (.ref p))) (get : PySem.W.specialIn X.K (.ref p) "__get__" = some (some (.builtin "property.__get__")))
    (tk : PySem.W.takesIn X.K (.ref p) = some true) (rc : ∃ rest, PySem.W.recIn X.K p "property" = some (.ref g :: rest)) (F : FnR X.prog X.w X.K X.mg X.base CX0 k g (spD X.K B S)) (hr : Room (k + 1) X.A) (he : PD X B e r) (hb : attributeBase e f X.env (eval e X.env) = eval e X.env := by rfl) :
    PD X B (.Attribute e f pos) (dProp C S r) := pe_mono (SlX.pe_propSl (E := E0) he c at_ get tk rc F hr (fun _ _ _ _ z => z) hb) fun σ H P q => by
  obtain ⟨H0, G, δ, Q, j, st, hr, k⟩ := q
  refine ⟨H0, G, δ, _, j, st, hr, fun d v G2 H2 q2 g2 h2 => ?_⟩
  obtain ⟨ho, q2⟩ := q2
  cases h2 with
  | @obj a dx C' vs fs h3 h4 h5 =>
    have ho : C' = C := ho
    subst ho
    exact ⟨a, dx, vs.map some, rfl, obj_slt (K := X.K) (B := B) g2.j.ex h3 h4, G2, _, Q, g2.j, .cons (.obj h3 h4 h5) .nil, q2, fun d v G3 H3 q3 g3 h3 => k d v G3 H3 q3 (g2.trans g3) h3⟩
  | _ => exact ho.elim
def dMeth (C : Nat) (S : FD) (r : DE) (ra : DA) : DE := fun δ Q => r δ fun d => isO C d ∧ ra δ fun ds => S (d :: ds) Q
theorem pd_meth {pl : Sem Bool} {apos : Pos} (c : SlX.SCls X.K (B.ct C)) (hm : Meth X.K (B.ct C) m g) (F : FnR X.prog X.w X.K X.mg X.base CX0 k g (spD X.K B S)) (hr : Room k X.A) (he : PD X B o r) (ha : PAD X B (e :: es) ra)
    (hst : starEach (e :: es) X.env = (false, eval e X.env) :: starEach es X.env := by rfl) (hpl : (backTo pos (starEach es X.env)).any (·.1) = false := by rfl)
    (ht : eval (.Call (.Attribute o m apos) (e :: es) [] pos) X.env = (do let ov ← eval o X.env; standAt apos.atName; let (f, first) ← holding [ov] (getMethod ov m pl); callWith pos f first (backTo pos (starEach (e :: es) X.env)) (backToKw pos (keywordEach [] X.env))) := by rfl) :
    PD X B (.Call (.Attribute o m apos) (e :: es) [] pos) (dMeth C S r ra) := pe_mono (SlX.pe_methSl (E := E0) he c hm F hr pass0 ha hst hpl ht) fun σ H P q => by
  obtain ⟨H0, G, δ, Q, j, st, hr, k⟩ := q
  refine ⟨H0, G, δ, _, j, st, hr, fun d v G2 H2 q2 g2 h2 => ?_⟩
  obtain ⟨ho, q2⟩ := q2
  cases h2 with
  | @obj a dx C' vs fs h3 h4 h5 =>
    have ho : C' = C := ho
    subst ho
    refine ⟨a, dx, vs.map some, rfl, obj_slt (K := X.K) (B := B) g2.j.ex h3 h4, H0, G2, δ, _, g2.j, st.gr g2, q2, fun ds ws G3 H3 q3 g3 h6 => ?_⟩
    exact ⟨G3, _, Q, g3.j, .cons ((Dat.obj h3 h4 h5).mono g3.ex) h6, q3, fun d v G4 H4 q4 g4 h7 => k d v G4 H4 q4 ((g2.trans g3).trans g4) h7⟩
  | _ => exact ho.elim
def oOwn (C : Nat) (S : FD) : O2 := fun x y Q => isO C x ∧ isO C y ∧ S [x, y] Q
def oOwn1 (C : Nat) (S : FD) : O1 := fun x Q => isO C x ∧ S [x] Q
end
def putD (m : Nat) (d : D) (fs : List (Option D)) : List (Option D) := (fs ++ List.replicate (m + 1 - fs.length) none).set m (some d)
theorem fld_put {K : PySem.W.Frag} {B : Bx} {G : Hp} {vs : List (Option V)} {fs : List (Option D)} {m : Nat} {v : V} {d : D} (h : FldOk K B G vs fs) (hv : Dat K B G v d) : FldOk K B G (SlX.putS m v vs) (putD m d fs) := by
  refine ⟨by unfold SlX.putS putD; simp only [List.length_set, List.length_append, List.length_replicate]; rw [h.1], fun i x e => ?_⟩
  by_cases hi : i = m
  · subst hi
    have e2 : (putD i d fs)[i]? = some (some d) := by
      unfold putD
      exact List.getElem?_set_self (by simp only [List.length_append, List.length_replicate]; omega)
    rw [e2] at e
    cases e
    exact ⟨v, SlX.putS_get i v vs, hv⟩
  · have e2 : fs[i]? = some (some x) := by
      unfold putD at e
      rw [List.getElem?_set_ne (Ne.symm hi)] at e
      by_cases hl : i < fs.length
      · rw [List.getElem?_append_left hl] at e; exact e
      · rw [List.getElem?_append_right (by omega), List.getElem?_replicate] at e
        split at e <;> cases e
    obtain ⟨u, a, b⟩ := h.2 i x e2
    exact ⟨u, (SlX.putS_ne hi).mpr a, b⟩
def notNw : Option SD → Bool
  | some (.nw _ _ _) => false
  | _ => true
def oneNw (i : Nat) (δ : DS) : Bool := (List.range δ.length).all fun j => j == i || notNw (δ.getD j none)
section
variable {K : PySem.W.Frag} {B : Bx} {G0 H0 G H : Hp} {σ : L2.St} {δ : DS} {i m C : Nat} {x dx : Addr} {vs : List (Option V)} {fs : List (Option D)} {v : V} {d : D}
theorem nw_gr (g : Gr K B G0 H0 G H) (n : NwAt K B H0 G H x C dx vs fs) (ws : List (Option V)) : Gr K B G0 H0 G (SlX.slH H x (B.ct C) dx ws) := (g.own n.hd n.gd n.bd).own n.hx n.gx n.bx
theorem nw_put (n : NwAt K B H0 G H x C dx vs fs) (hv : Dat K B G v d) : NwAt K B H0 G (SlX.slH H x (B.ct C) dx (SlX.putS m v vs)) x C dx (SlX.putS m v vs) (putD m d fs) :=
  ⟨SlX.slH_slt n.ne, .inr (by unfold SlX.slH; rw [upd_ne n.ne, upd_same]), n.ne, n.gx, n.gd, n.hx, n.hd, n.bx, n.bd, fld_put n.fl hv⟩
theorem StF.nw {F : Nat → List Addr} (y : StF K B H0 G H σ δ F) (h : δ[i]? = some (some (.nw x C fs))) : ∃ dx vs, σ[i]? = some (some (.ref x)) ∧ NwAt K B H0 G H x C dx vs fs ∧ F i = [x, dx] := by
  obtain ⟨ov, h1, s⟩ := y.get h
  generalize F i = f at s ⊢
  cases s with
  | nw n => exact ⟨_, _, h1, n, rfl⟩
theorem st_put {F : Nat → List Addr} (y : StF K B H0 G H σ δ F) (hi : δ[i]? = some (some (.nw x C fs))) (hs : σ[i]? = some (some (.ref x))) (n : NwAt K B H0 G H x C dx vs fs) (hF : F i = [x, dx]) (hv : Dat K B G v d) :
    StF K B H0 G (SlX.slH H x (B.ct C) dx (SlX.putS m v vs)) σ (δ.set i (some (.nw x C (putD m d fs)))) (fun j => if j = i then [x, dx] else F j) := by
  have z := y.put (i := i) (List.getElem?_eq_some_iff.mp hs).1 (Ex.refl G) (H2 := SlX.slH H x (B.ct C) dx (SlX.putS m v vs)) (fun p _ _ hp => ?_) (.nw (nw_put (m := m) n hv)) fun p hp => .inr (by rw [hF]; exact hp)
  · rw [set_same hs] at z
    exact z
  · rw [hF] at hp
    have h1 : p ≠ x := fun e => hp (by rw [e]; simp)
    have h2 : p ≠ dx := fun e => hp (by rw [e]; simp)
    exact ⟨SlX.slH_ne h1 h2, rfl⟩
end
section
variable {X : Cx} {B : Bx} {e : Expr} {r : DE} {pos : Pos} {p : Addr} {f : Str} {i m C : Nat}
/-- self.f as a target -/
def gA (K : PySem.W.Frag) (i m : Nat) (C : Addr) : TG := fun v σ H Q => ∃ x dx vs, σ[i]? = some (some (.ref x)) ∧ SlX.Slt H x C dx vs ∧ Q σ (SlX.slH H x C dx (SlX.putS m v vs))
theorem pg_attr {o : Expr} (c : SlX.SCls X.K (B.ct C)) (t : SlX.Slot1 X.K (B.ct C) f p m) (ho : PE X o (tVar i)) : PG X (.Attribute o f pos) (gA X.K i m (B.ct C)) := ⟨fun pins s σ H v u Q I r hw => by
  obtain ⟨x, dx, vs, hs, hsl, q⟩ := hw
  rw [assign_Attribute]
  refine wpAny_bind (wpAny_holding (thn (ho.run pins s σ H (fun y H1 => y = .ref x ∧ H1 = H) I ⟨_, hs, rfl, rfl⟩) fun ov s1 ⟨y, H1, I1, r1, q1⟩ => ?_))
  obtain ⟨rfl, rfl⟩ := q1
  cases (show ov = Value.ref x from r1)
  refine wpAny_bind (wpAny_standAt (wpAny_bind (wpAny_holding (SlX.setslot_ok I1 hsl c t r fun s2 I2 => wpAny_release ⟨σ, _, I2, q⟩))))⟩
/-- self.f = e -/
def dSelf (i m : Nat) (C : Nat) (r : DE) : DTS := fun W δ => r δ fun d => match δ[i]? with
  | some (some (.nw x C' fs)) => (C' = C ∧ oneNw i δ = true) ∧ W.nx (δ.set i (some (.nw x C (putD m d fs))))
  | _ => False
/-- self.f, self.g = e -/
def dSelf2 (i m n : Nat) (C : Nat) (r : DE) : DTS := fun W δ => r δ fun d => match d with
  | .tup [d1, d2] => match δ[i]? with
    | some (some (.nw x C' fs)) => (C' = C ∧ oneNw i δ = true) ∧ W.nx (δ.set i (some (.nw x C (putD n d2 (putD m d1 fs)))))
    | _ => False
  | _ => False
theorem psd_self2 {o1 o2 : Expr} {p2 : Addr} {f2 : Str} {n k1 : Nat} {pa pb pt : Pos} (hc : X.calm = true) (c : SlX.SCls X.K (B.ct C)) (t : SlX.Slot1 X.K (B.ct C) f p m) (t2 : SlX.Slot1 X.K (B.ct C) f2 p2 n) (ho1 : PE X o1 (tVar i)) (ho2 : PE X o2 (tVar i)) (he : PD X B e r)
    (hn : (assignEach [.Attribute o1 f pa, .Attribute o2 f2 pb] X.env).length = 2 := by rfl) (hst : (assignEach [.Attribute o1 f pa, .Attribute o2 f2 pb] X.env).findIdx? (·.1) = none := by rfl)
    (ha1 : (assignEach [.Attribute o1 f pa, .Attribute o2 f2 pb] X.env).map (·.2) = assign (.Attribute o1 f pa) X.env :: (assignEach [.Attribute o2 f2 pb] X.env).map (·.2) := by rfl) (ha2 : (assignEach [.Attribute o2 f2 pb] X.env).map (·.2) = assign (.Attribute o2 f2 pb) X.env :: (assignEach [] X.env).map (·.2) := by rfl)
    (hs : swapsWithSole [.Tuple [.Attribute o1 f pa, .Attribute o2 f2 pb] k1 pt] e pos.line X.env = pure false := by rfl) (hw : swappedStores [.Tuple [.Attribute o1 f pa, .Attribute o2 f2 pb] k1 pt] e X.env = pure none := by rfl) (h1 : (assignEach [.Tuple [.Attribute o1 f pa, .Attribute o2 f2 pb] k1 pt] X.env).map (·.2) = [assign (.Tuple [.Attribute o1 f pa, .Attribute o2 f2 pb] k1 pt) X.env] := by rfl) :
    PSD X B (.Assign [.Tuple [.Attribute o1 f pa, .Attribute o2 f2 pb] k1 pt] e pos) (dSelf2 i m n C r) :=
  ps_mono (ps_asg he (pg_tup hc (pgs_cons (pg_attr c t ho1) (pgs_cons (pg_attr c t2 ho2) pgs_nil ha2) ha1) hn hst) hs hw h1) fun E σ H q => by
  obtain ⟨G0, H0, G, δ, W, g, s, h, k⟩ := q
  refine at_stmt g s h fun d v G2 H2 q2 g2 e2 s2 h2 => ?_
  cases h2 with
  | @tup a xs ds h3 h4 =>
    cases h4 with
    | nil => exact q2.elim
    | @cons v1 r1 d1 _ h5 h6 =>
      cases h6 with
      | nil => exact q2.elim
      | @cons v2 r2 d2 _ h7 h8 =>
        cases h8 with
        | cons _ _ => exact q2.elim
        | nil =>
          have q2 : (match δ[i]? with | some (some (.nw x C' fs)) => (C' = C ∧ oneNw i δ = true) ∧ W.nx (δ.set i (some (.nw x C (putD n d2 (putD m d1 fs))))) | _ => False) := q2
          cases h1 : δ[i]? with
          | none => rw [h1] at q2; exact q2.elim
          | some z =>
            cases z with
            | none => rw [h1] at q2; exact q2.elim
            | some y =>
              cases y with
              | sh _ => rw [h1] at q2; exact q2.elim
              | ow _ _ => rw [h1] at q2; exact q2.elim
              | nw x C' fs =>
                rw [h1] at q2
                obtain ⟨⟨rfl, one⟩, q2⟩ := q2
                obtain ⟨F, y⟩ := s2.ex
                obtain ⟨dx, vs, a1, nn, hF⟩ := StF.nw y h1
                refine ⟨a, _, rfl, tx g2.j.ex h3, rfl, v1, [v2], rfl, x, dx, vs, a1, nn.sl, v2, [], rfl, x, dx, _, a1, SlX.slH_slt nn.ne, rfl, ?_⟩
                have n1 := nw_put (m := m) nn h5
                have s3 := st_put (m := m) y h1 a1 nn hF h5
                have g3 := nw_gr g2 nn (SlX.putS m v1 vs)
                have h1' : (δ.set i (some (.nw x C' (putD m d1 fs))))[i]? = some (some (.nw x C' (putD m d1 fs))) := List.getElem?_set_self (List.getElem?_eq_some_iff.mp h1).1
                have s4 := st_put (m := n) s3 h1' a1 n1 (if_pos rfl) h7
                rw [List.set_set] at s4
                exact k.nx _ _ G2 _ q2 (nw_gr g3 n1 _) e2 ⟨_, s4⟩
  | _ => exact q2.elim
end
abbrev FI := List D → (List D → Prop) → Prop
def hid2 (H : Hp) (x dx : Addr) : Hp := fun b => if b = x ∨ b = dx then none else H b
def spI (K : PySem.W.Frag) (B : Bx) (C : Nat) (S : FI) : Sp := fun vs H P _ => ∃ (x dx : Addr) (ws : List V) (G : Hp) (ds : List D) (Q : List D → Prop), vs = .ref x :: ws ∧ H x = some (.ins (B.ct C) dx []) ∧ H dx = some (.own x) ∧ dx ≠ x ∧ G x = none ∧ G dx = none ∧ Jn K B G H ∧ B.nb x ∧ B.nb dx ∧ Dats K B G ws ds ∧ S ds Q ∧
  ∀ fs us dy G2 H2, Q fs → Gr K B G (hid2 H x dx) G2 H2 → H2 x = some (SlX.SlO x (B.ct C) dy (us.map some)) → H2 dy = some (.xd []) → dy ≠ x → G2 x = none → G2 dy = none → hid2 H x dx dy = none → B.nb dy → Dats K B G2 us fs → P .non H2
def startI (n : Nat) (x : Addr) (C : Nat) (ds : List D) : DS := some (.nw x C []) :: (ds.map (fun d => some (.sh d)) ++ List.replicate (n - 1 - ds.length) none)
def endI (x : Addr) (C : Nat) (Q : List D → Prop) : DEnds where
  nx := fun (δ : DS) => match (δ[0]? : Option (Option SD)) with
    | some (some (.nw x' C' fs)) => (x' = x ∧ C' = C) ∧ ∃ ds, fs = ds.map some ∧ ds ≠ [] ∧ Q ds
    | _ => False
  rt := fun _ => False
theorem flds_all {K : PySem.W.Frag} {B : Bx} {G : Hp} : ∀ {vs : List (Option V)} {ds : List D}, FldOk K B G vs (ds.map some) → ∃ us, vs = us.map some ∧ Dats K B G us ds
  | [], [], _ => ⟨[], rfl, .nil⟩
  | [], _ :: _, h => nomatch h.1
  | _ :: _, [], h => nomatch h.1
  | v :: vs, d :: ds, h => by
    obtain ⟨u, e1, e2⟩ := h.2 0 d rfl
    cases e1
    obtain ⟨us, e3, e4⟩ := flds_all (vs := vs) (ds := ds) ⟨Nat.succ.inj h.1, fun i x e => h.2 (i + 1) x e⟩
    exact ⟨u :: us, by rw [e3]; rfl, .cons e2 e4⟩
section
variable {P : Program} {w : World} {K : PySem.W.Frag} {mg : Str → Option Value} {base : Heap}
/-- the __init__'s entry, by its promise -/
theorem init_lift {N : List Str} {B : Bx} {C : Nat} {S : FI} {t : DTS} {vs : List V} {H : Hp} {Q : VK} {E : XK} (hN : 1 ≤ N.length) (vc : ∀ x ds Q, S ds Q → t (endI x C Q) (startI N.length x C ds)) (h : spI K B C S vs H Q E) :
    liftS K B t { nx := fun _ H' => Q .non H', rt := Q } (L2.start N vs) H := by
  obtain ⟨x, dx, ws, G, ds, R, rfl, hx, hdx, ne, gx, gd, j, nbx, nbd, hd, hs, kk⟩ := h
  have g0 : Gr K B G (hid2 H x dx) G H := by
    refine ⟨Ex.refl G, fun a o _ h => ?_, j, fun _ _ => rfl⟩
    unfold hid2 at h
    split at h
    · cases h
    · exact h
  have s0 : StOk K B (hid2 H x dx) G H (L2.start N (.ref x :: ws)) (startI N.length x C ds) := by
    have base_ := start_ok (K := K) (B := B) (H0 := hid2 H x dx) (H := H) (N := N) (vs := .ref x :: ws) (ds := .bag :: ds) (G := G)
    have len0 : (L2.start N (.ref x :: ws)).length = (startI N.length x C ds).length := by
      unfold L2.start startI
      simp only [List.length_append, List.length_map, List.length_cons, List.length_replicate]
      rw [hd.len]
      omega
    have at0 : (L2.start N (.ref x :: ws))[0]? = some (some (.ref x)) := rfl
    have rest : ∀ (i : Nat) (y : SD), (startI N.length x C ds)[i + 1]? = some (some y) → ∃ d v, y = .sh d ∧ (L2.start N (.ref x :: ws))[i + 1]? = some (some v) ∧ Dat K B G v d := fun i y e => by
      have e : (ds.map (fun d => some (SD.sh d)) ++ List.replicate (N.length - 1 - ds.length) none)[i]? = some (some y) := e
      by_cases hi : i < ds.length
      · rw [List.getElem?_append_left (by rw [List.length_map]; exact hi), List.getElem?_map] at e
        cases hdd : ds[i]? with
        | none => rw [hdd] at e; cases e
        | some d' =>
          rw [hdd] at e
          cases e
          obtain ⟨v, h1, h2⟩ := hd.get hdd
          refine ⟨d', v, rfl, ?_, h2⟩
          show (ws.map some ++ List.replicate (N.length - (ws.length + 1)) none)[i]? = _
          rw [List.getElem?_append_left (by rw [List.length_map, hd.len]; exact hi), List.getElem?_map, h1]
          rfl
      · rw [List.getElem?_append_right (by rw [List.length_map]; omega), List.getElem?_replicate] at e
        split at e <;> cases e
    have none0 : ∀ (i : Nat) (od : Option SD), (startI N.length x C ds)[i + 1]? = some od → od = none ∨ ∃ y, od = some y := fun i od _ => by cases od with | none => exact .inl rfl | some y => exact .inr ⟨y, rfl⟩
    refine ⟨fun i => if i = 0 then [x, dx] else [], len0, fun i ov od e1 e2 => ?_, fun i j' _ _ hij p hp hq => ?_⟩
    · cases i with
      | zero =>
        rw [at0] at e1
        cases e1
        cases e2
        rw [if_pos rfl]
        exact .nw ⟨.inl ⟨hx, rfl⟩, .inl hdx, ne, gx, gd, by unfold hid2; rw [if_pos (.inl rfl)], by unfold hid2; rw [if_pos (.inr rfl)], nbx, nbd, rfl, fun i d e => nomatch e⟩
      | succ i =>
        rw [if_neg (Nat.succ_ne_zero i)]
        rcases none0 i od e2 with rfl | ⟨y, rfl⟩
        · exact .no
        · obtain ⟨d', v, rfl, h2, h3⟩ := rest i y e2
          rw [h2] at e1
          cases e1
          exact .sh h3
    · by_cases h1 : i = 0
      · have h2 : j' ≠ 0 := fun z => hij (h1.trans z.symm)
        rw [if_neg h2] at hq
        exact nomatch hq
      · rw [if_neg h1] at hp
        exact nomatch hp
  refine ⟨G, hid2 H x dx, G, startI N.length x C ds, endI x C R, g0, s0, vc x ds R hs, ⟨?_, ?_, ?_, ?_, ?_⟩⟩
  · intro σ δ G2 H2 q g _ s2
    have q : (match (δ[0]? : Option (Option SD)) with | some (some (.nw x' C' fs)) => (x' = x ∧ C' = C) ∧ ∃ ds, fs = ds.map some ∧ ds ≠ [] ∧ R ds | _ => False) := q
    cases h1 : δ[0]? with
    | none => rw [h1] at q; exact q.elim
    | some z =>
      cases z with
      | none => rw [h1] at q; exact q.elim
      | some y =>
        cases y with
        | sh _ => rw [h1] at q; exact q.elim
        | ow _ _ => rw [h1] at q; exact q.elim
        | nw x' C' fs =>
          rw [h1] at q
          obtain ⟨⟨rfl, rfl⟩, es, rfl, hne, q⟩ := q
          obtain ⟨d2, us, a1, n⟩ := s2.nw 0 x' C' _ h1
          obtain ⟨zs, rfl, hz⟩ := flds_all n.fl
          rcases n.sl with ⟨z1, z2⟩ | ⟨z1, z2⟩
          · have : zs = [] := by simpa using z2
            subst this
            cases hz
            exact absurd rfl hne
          · exact kk es zs d2 G2 H2 q g z1 z2 n.ne n.gx n.gd n.hd n.bd hz
  · exact fun σ δ G2 H2 q g _ s2 => q.elim
  · exact fun σ δ G2 H2 q g _ s2 => q.elim
  · exact fun d v G2 H2 q g _ hd => q.elim
  · exact fun o v f G2 H2 q g _ hd => q.elim
theorem fn_init {x qual : Str} {st : Stmt} {f : Addr} {fd : FuncData} {N ps : List Str} {k : Nat} {B : Bx} {C : Nat} {S : FI} {t : DTS} (F : Fun K x qual st f fd) (Sc : FnScope N ps (defScope st)) (len : ∀ ds Q, S ds Q → ds.length + 1 = ps.length) (hN : 1 ≤ N.length)
    (hbody : ∀ (cdv : Value) (A : Around) (outer : List Env) (s : Shared) (H : Hp) (E : XK), Room k (A.deeper (envOfC qual (defScope st) s.heap.objs.size f cdv)) → PSsD (cxOf CX0 P w K mg base N qual (defScope st) f cdv A outer s H E).nox B (defBody st) t)
    (vc : ∀ x ds Q, S ds Q → t (endI x C Q) (startI N.length x C ds)) : FnOk P w K mg base CX0 (k + 1) f fd ps (spI K B C S) := by
  refine F.ok Sc (fun vs H Q E h => ?_) (fun cdv A outer s H vs Q E hr h => ⟨_, hbody cdv A outer s H E hr, init_lift hN vc h⟩)
  obtain ⟨x, dx, ws, G, ds, R, rfl, _, _, _, _, _, _, _, _, hd, hs, _⟩ := h
  rw [List.length_cons, hd.len]
  exact len ds R hs
end
section
variable {X : Cx} {B : Bx} {e : Expr} {es : List Expr} {pos : Pos} {g : Addr} {k C : Nat} {x : Str} {ra : DA} {S : FI}
def dMake (C : Nat) (S : FI) (ra : DA) : DE := fun δ Q => ra δ fun ds => S ds fun fs => Q (.obj C fs)
theorem pd_make {fp : Pos} (M : Mk X.K (B.ct C) g) (F : FnR X.prog X.w X.K X.mg X.base CX0 k g (spI X.K B C S)) (hr : Room (k + 1) X.A) (hg : Gl X x) (hm : X.mg x = some (.ref (B.ct C))) (ha : PAD X B (e :: es) ra) (hdb : (x == ("__debug__" : Str)) = false := by decide)
    (he : starEach (e :: es) X.env = (false, eval e X.env) :: starEach es X.env := by rfl) (hpl : (backTo pos (starEach es X.env)).any (·.1) = false := by rfl) : PD X B (.Call (.Name x fp) (e :: es) [] pos) (dMake C S ra) := pe_mono (StX.pe_makeR (E := E0) M F hr hg hm pass0 ha hdb he hpl) fun σ H P q => by
  obtain ⟨H0, G, δ, Q, j, st, hr, k⟩ := q
  refine ⟨H0, G, δ, _, j, st, hr, fun ds vs G2 H2 q2 g2 h2 y dx hy hdx ne => ?_⟩
  have gy : G2 y = none := fresh_back g2.j.ex hy
  have gd : G2 dx = none := fresh_back g2.j.ex hdx
  have j1 : Jn X.K B G2 (upd (upd H2 dx (.own y)) y (.ins (B.ct C) dx [])) := by
    have a := Gr.new0 (o := .own y) g2.j hdx
    exact (Gr.new0 (o := .ins (B.ct C) dx []) a.j (by rw [upd_ne (Ne.symm ne)]; exact hy)).j
  have eh : hid2 (upd (upd H2 dx (.own y)) y (.ins (B.ct C) dx [])) y dx = H2 := by
    funext b
    unfold hid2
    by_cases h1 : b = y
    · subst h1; rw [if_pos (.inl rfl), hy]
    · by_cases h3 : b = dx
      · subst h3; rw [if_pos (.inr rfl), hdx]
      · rw [if_neg (fun z => z.elim h1 h3), upd_ne h1, upd_ne h3]
  refine ⟨y, dx, vs, G2, ds, _, rfl, upd_same, by rw [upd_ne ne, upd_same], ne, gy, gd, j1, Gr.neB g2.j hy, Gr.neB g2.j hdx, h2, q2, fun fs us dy G3 H3 q3 g3 z1 z2 z3 z4 z5 z6 z7 z8 => ⟨rfl, ?_⟩⟩
  rw [eh] at g3 z6
  have g4 := g3.frz (p := dy) z6 z5 z7 z2
  have g5 := g4.frz (p := y) hy (by rw [upd_ne (Ne.symm z3)]; exact z4) (Gr.neB g2.j hy) z1
  have e5 : Ex G3 (upd (upd G3 dy (.xd [])) y (SlX.SlO y (B.ct C) dy (us.map some))) := (Ex.new z5).trans (Ex.new (by rw [upd_ne (Ne.symm z3)]; exact z4))
  exact k _ _ _ _ q3 (g2.trans g5) (.obj upd_same (by rw [upd_ne z3, upd_same]) (z8.mono e5))
def dCallO (C : Nat) (Sf : FD) (r : DE) (ra : DA) : DE := fun δ Q => r δ fun d => isO C d ∧ ra δ fun ds => Sf (d :: ds) Q
end
end DL
namespace DL
open PySem PySem.Spec PyProof.Rows L2 Evl
structure DefAt (K : PySem.W.Frag) (mg : Str → Option Value) (x : Str) (st : Stmt) (ps : List Str) where
  f : Addr
  fd : FuncData
  fn : Fun K x x st f fd
  bd : Binds K fd ps []
  at_ : mg x = some (.ref f)
/-- a def within a class: its address and how it is bound -/
structure InAt (K : PySem.W.Frag) (x qual : Str) (st : Stmt) (ps : List Str) where
  f : Addr
  fd : FuncData
  fn : Fun K x qual st f fd
  bd : Binds K fd ps []
structure PrpAt (K : PySem.W.Frag) (C : Addr) (x : Str) (g : Addr) : Prop where
  ex : ∃ p, PySem.W.findIn K (.ref C) x = some (some (.ref p)) ∧ PySem.W.specialIn K (.ref p) "__get__" = some (some (.builtin "property.__get__")) ∧ PySem.W.takesIn K (.ref p) = some true ∧ ∃ rest, PySem.W.recIn K p "property" = some (.ref g :: rest)
structure SlotAt (K : PySem.W.Frag) (C : Addr) (x : Str) (i : Nat) : Prop where
  ex : ∃ p, SlX.Slot1 K C x p i
/-- by positions -/
theorem fn_r {P : Program} {w : World} {K : PySem.W.Frag} {mg : Str → Option Value} {base : Heap} {CX : CXT} {k : Nat} {f : Addr} {fd : FuncData} {ps : List Str} {sp : Sp} (F : FnOk P w K mg base CX k f fd ps sp) (b : Binds K fd ps []) : FnR P w K mg base CX k f sp :=
  (F.raw b .nil).imp fun vs H Q E h => by rw [List.append_nil]; exact h
section
variable {X : Cx} {B : Bx} {e o : Expr} {es : List Expr} {r : DE} {pos : Pos} {C k k' i : Nat} {S : FD} {ra : DA} {f m : Str} {g : Addr}
/-- f(..), a def of the module -/
theorem pd_callD {x : Str} {st : Stmt} {ps : List Str} {fp : Pos} (T : DefAt X.K X.mg x st ps) (F : FnOk X.prog X.w X.K X.mg X.base CX0 k T.f T.fd ps (spD X.K B S)) (hr : Room k' X.A) (hk : k ≤ k') (hg : Gl X x) (ha : PAD X B (e :: es) ra) (hd : (x == ("__debug__" : Str)) = false := by decide) (he : starEach (e :: es) X.env = (false, eval e X.env) :: starEach es X.env := by rfl) (hpl : (backTo pos (starEach es X.env)).any (·.1) = false := by rfl) :
    PD X B (.Call (.Name x fp) (e :: es) [] pos) (dCall S ra) := pd_call F (hr.mono hk) hg T.at_ T.fn.kp T.bd (E := E0) pass0 ha hd he hpl
theorem pd_callDG {x : Str} {st : Stmt} {ps : List Str} {fp : Pos} (T : DefAt X.K X.mg x st ps) (F : FnG X.prog X.w X.K X.mg X.base CX0 k T.f T.fd ps (spD X.K B S)) (hgd : X.A.guards = some []) (hr : Room k' X.A) (hk : k ≤ k') (hg : Gl X x) (ha : PAD X B (e :: es) ra) (hd : (x == ("__debug__" : Str)) = false := by decide) (he : starEach (e :: es) X.env = (false, eval e X.env) :: starEach es X.env := by rfl) (hpl : (backTo pos (starEach es X.env)).any (·.1) = false := by rfl) :
    PD X B (.Call (.Name x fp) (e :: es) [] pos) (dCall S ra) := pd_callG F hgd (hr.mono hk) hg T.at_ T.fn.kp T.bd (E := E0) pass0 ha hd he hpl
theorem pd_propD (c : SlX.SCls X.K (B.ct C)) (T : PrpAt X.K (B.ct C) f g) (F : FnR X.prog X.w X.K X.mg X.base CX0 k g (spD X.K B S)) (hr : Room k' X.A) (hk : k + 1 ≤ k') (he : PD X B e r) (hb : attributeBase e f X.env (eval e X.env) = eval e X.env := by rfl) :
    PD X B (.Attribute e f pos) (dProp C S r) := by
  obtain ⟨p, h1, h2, h3, h4⟩ := T.ex
  exact pd_prop c h1 h2 h3 h4 F (hr.mono hk) he hb
theorem pd_fldD (c : SlX.SCls X.K (B.ct C)) (T : SlotAt X.K (B.ct C) f i) (he : PD X B e r) (hb : attributeBase e f X.env (eval e X.env) = eval e X.env := by rfl) : PD X B (.Attribute e f pos) (dFld C i r) := by
  obtain ⟨p, h⟩ := T.ex
  exact pd_fld c h he hb
end
section
variable {X : Cx} {B : Bx} {e : Expr} {r : DE} {pos : Pos} {C i m n : Nat} {f f2 : Str}
theorem psd_self2D {o1 o2 : Expr} {k1 : Nat} {pa pb pt : Pos} (hc : X.calm = true) (c : SlX.SCls X.K (B.ct C)) (t : SlotAt X.K (B.ct C) f m) (t2 : SlotAt X.K (B.ct C) f2 n) (ho1 : PE X o1 (tVar i)) (ho2 : PE X o2 (tVar i)) (he : PD X B e r)
    (hn : (assignEach [.Attribute o1 f pa, .Attribute o2 f2 pb] X.env).length = 2 := by rfl) (hst : (assignEach [.Attribute o1 f pa, .Attribute o2 f2 pb] X.env).findIdx? (·.1) = none := by rfl)
    (ha1 : (assignEach [.Attribute o1 f pa, .Attribute o2 f2 pb] X.env).map (·.2) = assign (.Attribute o1 f pa) X.env :: (assignEach [.Attribute o2 f2 pb] X.env).map (·.2) := by rfl) (ha2 : (assignEach [.Attribute o2 f2 pb] X.env).map (·.2) = assign (.Attribute o2 f2 pb) X.env :: (assignEach [] X.env).map (·.2) := by rfl)
    (hs : swapsWithSole [.Tuple [.Attribute o1 f pa, .Attribute o2 f2 pb] k1 pt] e pos.line X.env = pure false := by rfl) (hw : swappedStores [.Tuple [.Attribute o1 f pa, .Attribute o2 f2 pb] k1 pt] e X.env = pure none := by rfl) (h1 : (assignEach [.Tuple [.Attribute o1 f pa, .Attribute o2 f2 pb] k1 pt] X.env).map (·.2) = [assign (.Tuple [.Attribute o1 f pa, .Attribute o2 f2 pb] k1 pt) X.env] := by rfl) :
    PSD X B (.Assign [.Tuple [.Attribute o1 f pa, .Attribute o2 f2 pb] k1 pt] e pos) (dSelf2 i m n C r) := by
  obtain ⟨p, h⟩ := t.ex
  obtain ⟨p2, h2⟩ := t2.ex
  exact psd_self2 hc c h h2 ho1 ho2 he hn hst ha1 ha2 hs hw h1
end
theorem get_list {X : Cx} : PGet X (fun o i H Q => ∃ p xs j v, o = .ref p ∧ i = .int ((j : Nat) : Int) ∧ SqL X.K H p xs ∧ xs[j]? = some v ∧ Q v H) := by
  intro pins s σ H o i ov iv Q I ro ri h
  obtain ⟨p, xs, j, v, rfl, rfl, hq, e, q⟩ := h
  cases ro
  obtain ⟨t, rfl⟩ := ri
  obtain ⟨its, r, pl, hz⟩ := I.list hq
  obtain ⟨w, ew, rw'⟩ := r.get e
  have hj := (List.getElem?_eq_some_iff.mp e).1
  exact getItem_listL pl.isList (by omega) (by have := line63; omega) ew ⟨v, H, I, rw', q⟩
end DL
namespace DL
open PySem PySem.Spec PyProof.Rows L2 Evl
theorem lc_map {i : Nat} {te : DE} {δ : DS} {Q : List D → Prop} (f : D → D) : ∀ (ds acc : List D), (∀ d ∈ ds, ∀ R : D → Prop, R (f d) → te (δ.set i (some (.sh d))) R) → Q (acc ++ ds.map f) → lcD (gN i) dYes te δ Q ds acc
  | [], acc, _, q => by
    rw [List.map_nil, List.append_nil] at q
    exact q
  | d :: ds, acc, h, q => by
    show te (δ.set i (some (.sh d))) fun y => lcD (gN i) dYes te δ Q ds (acc ++ [y])
    refine h d List.mem_cons_self _ (lc_map f ds _ (fun z hz => h z (List.mem_cons_of_mem _ hz)) ?_)
    rw [List.append_assoc]
    exact q
/-- what is drawn: each is as P tells -/
theorem lc_any {i : Nat} {te : DE} {δ : DS} {Q : List D → Prop} (P : D → Prop) : ∀ (ds acc : List D), (∀ d ∈ ds, ∀ R : D → Prop, (∀ y, P y → R y) → te (δ.set i (some (.sh d))) R) → (∀ ys : List D, ys.length = ds.length → (∀ y ∈ ys, P y) → Q (acc ++ ys)) → lcD (gN i) dYes te δ Q ds acc
  | [], acc, _, q => by
    have := q [] rfl (fun _ h => nomatch h)
    rw [List.append_nil] at this
    exact this
  | d :: ds, acc, h, q => by
    show te (δ.set i (some (.sh d))) fun y => lcD (gN i) dYes te δ Q ds (acc ++ [y])
    refine h d List.mem_cons_self _ fun y hy => lc_any P ds _ (fun z hz => h z (List.mem_cons_of_mem _ hz)) fun ys hl hys => ?_
    rw [List.append_assoc]
    exact q (y :: ys) (by rw [List.length_cons, List.length_cons, hl]) fun z hz => by
      rcases List.mem_cons.mp hz with rfl | hz
      · exact hy
      · exact hys z hz
theorem ups_len (lo : Int) (n : Nat) : (ups lo n).length = n := by simp [ups]
theorem ups_succ (lo : Int) (n : Nat) : ups lo (n + 1) = .int lo :: ups (lo + 1) n := by
  unfold ups
  rw [List.range_succ_eq_map, List.map_cons, List.map_map]
  congr 1
  · simp
  · apply List.map_congr_left
    intro k _
    show D.int _ = D.int _
    congr 1
    simp only [Nat.succ_eq_add_one]
    omega
def sg (c : Nat) : D := .str ⟨#[c]⟩
theorem bls_map (f : D → Bool) : ∀ ds : List D, blsOf (ds.map fun d => .bl (f d)) = some (ds.map f)
  | [] => rfl
  | d :: ds => by
    show (blsOf (ds.map fun d => .bl (f d))).map (f d :: ·) = _
    rw [bls_map f ds]
    rfl
theorem strs_map {α : Type} (f : α → Str) : ∀ ds : List α, strsOf (ds.map fun d => .str (f d)) = some (ds.map f)
  | [] => rfl
  | d :: ds => by
    show (strsOf (ds.map fun d => .str (f d))).map (f d :: ·) = _
    rw [strs_map f ds]
    rfl
theorem strs_signs (cs : List Nat) : strsOf (cs.map sg) = some (cs.map fun c => ⟨#[c]⟩) := strs_map (fun c => (⟨#[c]⟩ : Str)) cs
def ofCodes (cs : List Nat) : Str := ⟨cs.toArray⟩
theorem tl_codes (cs : List Nat) : (ofCodes cs).cps.toList = cs := by simp [ofCodes]
theorem codes_len (cs : List Nat) : (ofCodes cs).length = cs.length := by simp [ofCodes, Str.length]
theorem str_ext {x y : Str} (h : x.cps.toList = y.cps.toList) : x = y := by
  cases x; cases y
  have h' := Array.toList_inj.mp h
  simp only at h'
  rw [h']
theorem len_toList (x : Str) : x.cps.toList.length = x.length := by simp [Str.length]
theorem glue_fold : ∀ (ps : List Str) (acc : Array Nat), (ps.foldl (fun acc p => acc ++ (Str.ofString "").cps ++ p.cps) acc).toList = acc.toList ++ (ps.map fun p => p.cps.toList).flatten
  | [], acc => by simp
  | p :: ps, acc => by
    rw [List.foldl_cons, glue_fold ps]
    have e : (Str.ofString "").cps = #[] := by decide +kernel
    rw [e]
    simp
theorem join_empty (ps : List Str) : Txt.join (Str.ofString "") ps = ofCodes (ps.map fun p => p.cps.toList).flatten := by
  apply str_ext
  rw [tl_codes]
  show ((ps.drop 1).foldl (fun acc p => acc ++ (Str.ofString "").cps ++ p.cps) (ps.headD Str.empty).cps).toList = _
  rw [glue_fold]
  cases ps with
  | nil => rfl
  | cons p ps => simp
theorem join_signs (cs : List Nat) : Txt.join (Str.ofString "") (cs.map fun c => ⟨#[c]⟩) = ofCodes cs := by
  rw [join_empty]
  congr 1
  induction cs with
  | nil => rfl
  | cons c cs ih => simpa using ih
theorem sum_ones (cs : List Nat) : ((cs.map fun c => (⟨#[c]⟩ : Str)).map (·.length)).sum = cs.length := by
  induction cs with
  | nil => rfl
  | cons c cs ih =>
    rw [List.map_cons, List.map_cons, List.sum_cons, ih, List.length_cons]
    show 1 + cs.length = cs.length + 1
    omega
theorem join_sz {cs : List Nat} (hz : cs.length ≤ 16777216) : ((cs.map fun c => (⟨#[c]⟩ : Str)).map fun x => x.length).sum + (cs.map fun c => (⟨#[c]⟩ : Str)).length * (Str.ofString "").length ≤ 16777216 := by
  have e : (Str.ofString "").length = 0 := by decide +kernel
  have := sum_ones cs
  rw [e, this]
  omega
theorem atI_pos {α : Type} {xs : List α} {i : Int} (h0 : 0 ≤ i) (h1 : i < xs.length) : atI xs i = some (xs[i.toNat]'(by omega)) := by
  have e : i = ((i.toNat : Nat) : Int) := by omega
  have h : xs[i.toNat]? = some (xs[i.toNat]'(by omega)) := List.getElem?_eq_getElem _
  have := atI_nat h
  rw [← e] at this
  exact this
theorem atI_q {α : Type} {xs : List α} {i : Int} {v : α} (h0 : 0 ≤ i) (h : xs[i.toNat]? = some v) : atI xs i = some v := by
  have e : i = ((i.toNat : Nat) : Int) := by omega
  rw [e]
  exact atI_nat h
theorem cut_to {α : Type} (xs : List α) (n : Nat) : cut xs none (some (n : Int)) = xs.take n := by
  unfold cut
  rw [HT.sIx_none, HT.sIx_nat, List.drop_zero, Nat.sub_zero]
  by_cases h : n ≤ xs.length
  · rw [Nat.min_eq_left h]
  · rw [Nat.min_eq_right (by omega), List.take_length, List.take_of_length_le (by omega)]
section
variable {α : Type} {a b c d e f g h : α} {xs : List α}
theorem atI0 : atI (a :: xs) 0 = some a := atI_nat (j := 0) rfl
theorem atI1 : atI (a :: b :: xs) 1 = some b := atI_nat (j := 1) rfl
theorem atI2 : atI (a :: b :: c :: xs) 2 = some c := atI_nat (j := 2) rfl
theorem atI3 : atI (a :: b :: c :: d :: xs) 3 = some d := atI_nat (j := 3) rfl
theorem atI4 : atI (a :: b :: c :: d :: e :: xs) 4 = some e := atI_nat (j := 4) rfl
theorem atI5 : atI (a :: b :: c :: d :: e :: f :: xs) 5 = some f := atI_nat (j := 5) rfl
theorem atI6 : atI (a :: b :: c :: d :: e :: f :: g :: xs) 6 = some g := atI_nat (j := 6) rfl
theorem atI7 : atI (a :: b :: c :: d :: e :: f :: g :: h :: xs) 7 = some h := atI_nat (j := 7) rfl
end
theorem eq_self {x : D} {Q : D → Prop} (h : plain x = true) (q : Q (.bl true)) : oEq x x Q := by
  have e : eqb x x = true := eqb_refl (Bool.and_eq_true_iff.mp h).1
  cases x with
  | str a => show Q (.bl (decide (a = a))); rw [decide_eq_true rfl]; exact q
  | int a => show Q (.bl (decide (a = a))); rw [decide_eq_true rfl]; exact q
  | bl a => show Q (.bl (a == a)); rw [beq_self_eq_true]; exact q
  | non => exact ⟨⟨h, h⟩, by rw [e]; exact q⟩
  | lst xs => exact ⟨⟨h, h⟩, by rw [e]; exact q⟩
  | tup xs => exact ⟨⟨h, h⟩, by rw [e]; exact q⟩
  | dic _ => exact ⟨⟨h, h⟩, by rw [e]; exact q⟩
  | obj _ _ => exact ⟨⟨h, h⟩, by rw [e]; exact q⟩
  | bag => exact ⟨⟨h, h⟩, by rw [e]; exact q⟩
  | ktup _ => exact ⟨⟨h, h⟩, by rw [e]; exact q⟩
def S__law_alike : FD := fun ds Q => match ds with
  | [x, y] => (x = y ∧ plain x = true ∧ x.wt ≤ 16000000) ∧ Q (.bl true)
  | _ => False
def S__law_take : FD := fun ds Q => match ds with
  | [.bag, .int n] => (0 < n ∧ n.natAbs.log2 < 9000) ∧ ∀ v, 0 ≤ v → v < n → Q (.int v)
  | _ => False
theorem small_log {n : Int} (h0 : 0 < n) (h1 : n < 1000000000) : n.natAbs.log2 < 9000 := by
  have h2 : n.natAbs.log2 < 30 := (Nat.log2_lt (by omega)).mpr (by omega)
  omega
end DL
namespace DL
open PySem PySem.Spec PyProof.Rows L2 Evl
section
variable {K : PySem.W.Frag} {mg : Str → Option Value} {h : Heap} {x qual : Str} {st : Stmt} {ps : List Str} {f C p : Addr} {oc : Value} {od an : Option Addr} {osl : Array (Option Value)} {kV doc pm cdv ct : Value} {rest : List Value}
def mkDef (X : K.In h) (G : h.Ns mainGlobals mg) (b : ∀ (kV doc pm : Value) (an : Option Addr) (cdv ct : Value) (us : List Value), us.length = ps.length → bindArgs (PySem.W.fnOf x x (defArgs st) (defBody st) (defScope st) .none kV doc pm an cdv ct) ⟨us, []⟩ = pure (ps.zip us))
    (a : PySem.W.nsIn K mainGlobals x = some (some (.ref f))) (l : K.lookup f = some ⟨oc, od, .func (PySem.W.fnOf x x (defArgs st) (defBody st) (defScope st) .none kV doc pm an cdv ct), osl⟩) (c : PySem.W.codeIn K cdv x = true) (k : PySem.W.keepIn K (.ref f) = true) : DefAt K mg x st ps :=
  ⟨f, _, fun_mk l c k, (fun_mk l c k).binds b, PySem.W.mg_of X G a⟩
def mkIn (b : ∀ (kV doc pm : Value) (an : Option Addr) (cdv ct : Value) (us : List Value), us.length = ps.length → bindArgs (PySem.W.fnOf x qual (defArgs st) (defBody st) (defScope st) .none kV doc pm an cdv ct) ⟨us, []⟩ = pure (ps.zip us))
    (l : K.lookup f = some ⟨oc, od, .func (PySem.W.fnOf x qual (defArgs st) (defBody st) (defScope st) .none kV doc pm an cdv ct), osl⟩) (c : PySem.W.codeIn K cdv qual = true) (k : PySem.W.keepIn K (.ref f) = true) : InAt K x qual st ps :=
  ⟨f, _, fun_mk l c k, (fun_mk l c k).binds b⟩
theorem ex_def (X : K.In h) (G : h.Ns mainGlobals mg) (b : ∀ (kV doc pm : Value) (an : Option Addr) (cdv ct : Value) (us : List Value), us.length = ps.length → bindArgs (PySem.W.fnOf x x (defArgs st) (defBody st) (defScope st) .none kV doc pm an cdv ct) ⟨us, []⟩ = pure (ps.zip us))
    (a : PySem.W.nsIn K mainGlobals x = some (some (.ref f))) (l : K.lookup f = some ⟨oc, od, .func (PySem.W.fnOf x x (defArgs st) (defBody st) (defScope st) .none kV doc pm an cdv ct), osl⟩) (c : PySem.W.codeIn K cdv x = true) (k : PySem.W.keepIn K (.ref f) = true) : Nonempty (DefAt K mg x st ps) := ⟨mkDef X G b a l c k⟩
/-- the law's own def: bound in every world -/
theorem ex_law {y : Str} (X : K.In h) (G : h.Ns mainGlobals mg) (b : ∀ (kV doc pm : Value) (an : Option Addr) (cdv ct : Value) (us : List Value), us.length = [y].length → bindArgs (PySem.W.fnOf x x (defArgs st) (defBody st) (defScope st) .none kV doc pm an cdv ct) ⟨us, []⟩ = pure ([y].zip us))
    (a : PySem.W.nsIn K mainGlobals x = some (some (.ref f))) (l : K.lookup f = some ⟨oc, od, .func (PySem.W.fnOf x x (defArgs st) (defBody st) (defScope st) .none kV doc pm an cdv ct), osl⟩) (c : PySem.W.codeIn K cdv x = true) (k : PySem.W.keepIn K (.ref f) = true) :
    ∃ t : DefAt K mg x st [y], ∀ (s : Shared) (v : Value), BindsTo s t.fd ⟨[v], []⟩ [(y, v)] := ⟨mkDef X G b a l c k, fun _ v => .of_eq (b kV doc pm an cdv ct [v] rfl)⟩
theorem ex_meth (b : ∀ (kV doc pm : Value) (an : Option Addr) (cdv ct : Value) (us : List Value), us.length = ps.length → bindArgs (PySem.W.fnOf x qual (defArgs st) (defBody st) (defScope st) .none kV doc pm an cdv ct) ⟨us, []⟩ = pure (ps.zip us))
    (a : PySem.W.findIn K (.ref C) x = some (some (.ref f))) (i : PySem.W.isFn K (.ref f) = true) (l : K.lookup f = some ⟨oc, od, .func (PySem.W.fnOf x qual (defArgs st) (defBody st) (defScope st) .none kV doc pm an cdv ct), osl⟩) (c : PySem.W.codeIn K cdv qual = true) (k : PySem.W.keepIn K (.ref f) = true) :
    ∃ t : InAt K x qual st ps, Meth K C x t.f := ⟨mkIn b l c k, a, i, k⟩
theorem ex_init (b : ∀ (kV doc pm : Value) (an : Option Addr) (cdv ct : Value) (us : List Value), us.length = ps.length → bindArgs (PySem.W.fnOf "__init__" qual (defArgs st) (defBody st) (defScope st) .none kV doc pm an cdv ct) ⟨us, []⟩ = pure (ps.zip us))
    (a : PySem.W.findIn K (.ref C) "__init__" = some (some (.ref f))) (i : PySem.W.isFn K (.ref f) = true) (l : K.lookup f = some ⟨oc, od, .func (PySem.W.fnOf "__init__" qual (defArgs st) (defBody st) (defScope st) .none kV doc pm an cdv ct), osl⟩) (c : PySem.W.codeIn K cdv qual = true) (k : PySem.W.keepIn K (.ref f) = true) (mk : PySem.W.makesIn K C = true) (kc : PySem.W.keepIn K (.ref C) = true) :
    ∃ t : InAt K "__init__" qual st ps, Mk K C t.f := ⟨mkIn b l c k, mk, a, i, kc⟩
theorem ex_prop (b : ∀ (kV doc pm : Value) (an : Option Addr) (cdv ct : Value) (us : List Value), us.length = ps.length → bindArgs (PySem.W.fnOf x qual (defArgs st) (defBody st) (defScope st) .none kV doc pm an cdv ct) ⟨us, []⟩ = pure (ps.zip us))
    (a : PySem.W.findIn K (.ref C) x = some (some (.ref p))) (g : PySem.W.specialIn K (.ref p) "__get__" = some (some (.builtin "property.__get__"))) (tk : PySem.W.takesIn K (.ref p) = some true) (r : PySem.W.recIn K p "property" = some (.ref f :: rest))
    (l : K.lookup f = some ⟨oc, od, .func (PySem.W.fnOf x qual (defArgs st) (defBody st) (defScope st) .none kV doc pm an cdv ct), osl⟩) (c : PySem.W.codeIn K cdv qual = true) (k : PySem.W.keepIn K (.ref f) = true) :
    ∃ t : InAt K x qual st ps, PrpAt K C x t.f := ⟨mkIn b l c k, p, a, g, tk, rest, r⟩
theorem ex_slot {i : Nat} (a : PySem.W.findIn K (.ref C) x = some (some (.ref p))) (g : PySem.W.specialIn K (.ref p) "__get__" = some (some (.builtin "member_descriptor.__get__"))) (tk : PySem.W.takesIn K (.ref p) = some true) (ty : PySem.W.typeIn K (.ref p) = some (.type "member_descriptor")) (ix : PySem.W.slotIn K p C = some i) (lt : i < 1000) : SlotAt K C x i := ⟨p, a, g, tk, ty, ix, lt⟩
end
end DL
namespace DL
open PySem PySem.Spec PyProof.Rows L2 Evl
section
variable {X : Cx} {B : Bx} {e : Expr} {r : DE} {pos : Pos} {C : Nat}
theorem Owns.len {K : PySem.W.Frag} {G H : Hp} : ∀ {vs : List V} {xs : List OD} {f : List Addr}, Owns K B G H vs xs f → vs.length = xs.length
  | _, _, _, .nil => rfl
  | _, _, _, .cons _ t => by rw [List.length_cons, List.length_cons, Owns.len t]
theorem Owns.append {K : PySem.W.Frag} {G H : Hp} : ∀ {vs ws : List V} {xs ys : List OD} {f g : List Addr}, Owns K B G H vs xs f → Owns K B G H ws ys g → Owns K B G H (vs ++ ws) (xs ++ ys) (f ++ g)
  | _, _, _, _, _, _, .nil, s => s
  | _, _, _, _, _, _, .cons h t, s => by rw [List.append_assoc]; exact .cons h (Owns.append t s)
/-- one's own list changes at its top -/
theorem StF.top {K : PySem.W.Frag} {H0 G H : Hp} {σ : L2.St} {δ : DS} {F : Nat → List Addr} {i : Nat} {p : Addr} {o' : OD} {hob : HO} {f f' : List Addr} (x : StF K B H0 G H σ δ F) (h2 : σ[i]? = some (some (.ref p))) (hF : F i = p :: f) (nd : (F i).Nodup) (hh : ∀ q ∈ F i, H0 q = none ∧ B.nb q)
    (hw : Own K B G (upd H p hob) (.ref p) o' f') (nd' : f'.Nodup) (hf : ∀ q ∈ f', q ∈ F i) : StOk K B H0 G (upd H p hob) σ (δ.set i (some (.ow (.ref p) o'))) := by
  have z := x.put (i := i) (List.getElem?_eq_some_iff.mp h2).1 (Ex.refl G) (H2 := upd H p hob) (fun q _ _ hq => ⟨upd_ne fun e => hq (by rw [hF, e]; exact List.mem_cons_self), rfl⟩) (.ow hw nd' fun q hq => hh q (hf q hq)) fun q hq => .inr (hf q hq)
  rw [set_same h2] at z
  exact ⟨_, z⟩
/-- what stands behind the top is kept -/
theorem Owns.past {K : PySem.W.Frag} {G H : Hp} {vs : List V} {xs : List OD} {f : List Addr} {p : Addr} {ho : HO} (h : Owns K B G H vs xs f) (hp : p ∉ f) : Owns K B G (upd H p ho) vs xs f := h.keep (Ex.refl G) fun q hq => ⟨upd_ne fun e => hp (e ▸ hq), rfl⟩
def dIsC (C : Nat) (r : DE) : DE := fun δ Q => r δ fun d => match d with
  | .obj c _ => match decide (c = C) with
    | true => Q (.bl true)
    | false => False
  | _ => False
end
end DL
namespace DL
open PySem PySem.Spec PyProof.Rows L2 Evl
section
open PySem.W
variable {prog : Program} {w : World} {A : Around} {E : Value → Shared → Prop} {s : Shared} {K : Frag} {x C L f : Addr} {h₀ : Heap} {m : Str → Option Value} {ox : Obj} {od : Option Obj} {b tb : Value}
theorem ifBound_B {M : Model} {name : Str} {id : String} {args : List Value} {Q : Option Value → Shared → Prop} (X : K.In s.heap) (I : InstAt s.heap x ox C od) (hs : findIn K (.ref C) name = some (some (.builtin id))) (hb : ∀ self, bindSpecial (.builtin id) self = pure (.builtin id, [self]))
    (h : wpAny M A (call (.builtin id) (.ref x :: args)) (fun v => Q (some v)) E s) : wpAny M A (callSpecialIfBound? (.ref x) name args) Q E s := by
  simp only [callSpecialIfBound?, bindSpecialIfBound?]
  refine wpAny_holding (wpAny_bind (wpAny_bind (wpAny_bind (I.type.here ((looks_findIn X hs).here ?_)))))
  refine wpAny_bind (wpAny_askSetting (wpAny_ite ?_))
  have fin : wpAny M A (call (.builtin id) ([.ref x] ++ args) >>= fun v => pure (some v)) Q E s := wpAny_bind (wpAny_mono h (fun v s' h' => wpAny_pure h') fun _ _ h' => h')
  split
  · exact wpAny_bind ((Looks.of_pure (hb _)).here (wpAny_pure (by exact fin)))
  · exact wpAny_tryCatch (wpAny_bind ((Looks.of_pure (hb _)).here (wpAny_pure (by exact fin))))
open Builtin in
theorem cmp_ne_K {Q : Value → Shared → Prop} (hu : A.units + 1 < cLine) (X : K.In s.heap) (I : InstAt s.heap x ox C od) (hb : Looks (model prog w) s.heap (typeOf b) tb) (hn : notFirst K C tb = true)
    (hs : findIn K (.ref C) "__ne__" = some (some (.builtin "object.__ne__"))) (he : findIn K (.ref C) "__eq__" = some (some (.ref f))) (hf : isFn K (.ref f) = true) (hm : mroIn K C (.type "object") = some true)
    (h : wpAny (model prog w) A.in1 (call (.ref f) [.ref x, b]) (fun v s' => ∃ c, v = .bool c ∧ Q (.bool (!c)) s') E s) : wpAny (model prog w) A (richCompare .NotEq (.ref x) b) Q E s := by
  have one : wpAny (model prog w) A (tryCompare (.ref x) "__ne__" b) (fun r s' => ∃ v, r = some v ∧ Q v s') E s := by
    unfold tryCompare
    refine wpAny_bind (ifBound_B X I hs PySem.F.slot_object_ne.bind ?_)
    refine wpAny_call (codeAny_call_builtin PySem.F.slot_object_ne.plain PySem.F.cmpEntry_ne (check_slot (i := "object.__ne__") (owner := "object") (n := "__ne__") (by decide +kernel) (by decide +kernel) (I.type.andThen (looks_mroIn X hm)) (PySem.F.cmpArgs_ne _ _) ?_))
    unfold Builtin.«object.__ne__»
    refine wpAny_bind (m := slotArgs "__ne__" 1 _) (wpAny_pure ?_)
    refine wpAny_bind (m := cRoomFor _ _) (wpAny_cRoomFor hu ?_)
    refine wpAny_bind (m := callSpecialIfBound? (.ref x) (Str.ofString "__eq__") _) (ifBound_K X I he hf (wpAny_mono h (fun r s' hq => ?_) fun _ _ y => y))
    obtain ⟨c, rfl, hq⟩ := hq
    refine wpAny_bind (m := truthy (.bool _)) (wpAny_truthy_bool ?_)
    exact wpAny_pure (wpAny_pure ⟨_, rfl, hq⟩)
  unfold richCompare
  simp only [oneThing_ref]
  refine wpAny_holding (wpAny_bind (wpAny_cRoomFor (Nat.lt_of_succ_lt hu) ?_))
  refine wpAny_bind (I.type.here (wpAny_bind (hb.here ?_)))
  split
  · rename_i q
    have e : subIn K tb (.ref C) = some false := by
      rcases Bool.or_eq_true_iff.mp hn with e | e
      · rw [beq_iff_eq.mp e] at q; simp at q
      · exact beq_iff_eq.mp e
    refine wpAny_bind ((looks_subIn X e).here ?_)
    simp only [Bool.false_eq_true, if_false]
    refine wpAny_bind (wpAny_mono one (fun r s' z => ?_) fun _ _ e => e)
    obtain ⟨v, rfl, hq⟩ := z
    exact wpAny_pure hq
  · refine wpAny_bind (wpAny_pure ?_)
    simp only [Bool.false_eq_true, if_false]
    refine wpAny_bind (wpAny_mono one (fun r s' z => ?_) fun _ _ e => e)
    obtain ⟨v, rfl, hq⟩ := z
    exact wpAny_pure hq
end
section
variable {X : Cx} {B : Bx} {g : Addr} {C k : Nat} {S : FD}
def oOwnNe (C : Nat) (S : FD) : O2 := fun x y Q => isO C x ∧ isO C y ∧ S [x, y] fun z => match z with
  | .bl b => Q (.bl (!b))
  | _ => False
end
end DL
namespace DL
open PySem PySem.Spec PyProof.Rows L2 Evl
def strVals : List Value → Option (List Str)
  | [] => some []
  | .str x _ :: r => (strVals r).map (x :: ·)
  | _ :: _ => none
def cTup (xs : List Str) : D := .ktup (xs.map .str)
theorem strVals_ok {K : PySem.W.Frag} {B : Bx} {G : Hp} : ∀ {us : List Value} {xs : List Str}, strVals us = some xs → Vals (xs.map V.str) us ∧ Dats K B G (xs.map V.str) (xs.map .str)
  | [], xs, h => by cases h; exact ⟨.nil, .nil⟩
  | .str x t :: r, xs, h => by
    have h : (strVals r).map (x :: ·) = some xs := h
    cases e : strVals r with
    | none => rw [e] at h; cases h
    | some ys =>
      rw [e] at h
      cases h
      obtain ⟨h1, h2⟩ := strVals_ok (K := K) (B := B) (G := G) e
      exact ⟨.cons ⟨t, rfl⟩ h1, .cons (.str x) h2⟩
  | .none :: _, _, h => nomatch h
  | .bool _ :: _, _, h => nomatch h
  | .int _ _ :: _, _, h => nomatch h
  | .ref _ :: _, _, h => nomatch h
theorem ex_tupS {K : PySem.W.Frag} {mg : Str → Option Value} {h : Heap} {x : Str} {p : Addr} {o : Obj} {its : Array Value} {n : Nat} {xs : List Str} (X : K.In h) (G : h.Ns mainGlobals mg) (a : PySem.W.nsIn K mainGlobals x = some (some (.ref p))) (l : K.lookup p = some o) (c : o.cls = .type "tuple") (d : o.data = .seq its n)
    (z : its.size ≤ sizeLine) (v : strVals its.toList = some xs) : ∃ p, mg x = some (.ref p) ∧ ∀ B G, Dat K B G (.ref p) (cTup xs) :=
  ⟨p, PySem.W.mg_of X G a, fun B G => by
    obtain ⟨h1, h2⟩ := strVals_ok (K := K) (B := B) (G := G) v
    exact .ktup (.inr ⟨o, its, n, l, c, d, z, h1⟩) h2⟩
section
variable {X : Cx} {B : Bx} {pos : Pos} {keys : List (Option Expr)} {values : List Expr} {ks : List Str} {ra : DA} {r ry : DE} {e o i : Expr}
/-- what is new is locked for ever -/
theorem pe_lockR {t t' : TE} (h : PE X e t) (m : ∀ σ H Q, t' σ H Q → t σ H fun v H1 => ∃ d u, H1 d = some u ∧ Mut (some u) ∧ ∀ od, Q v (upd H1 d (.frz od u))) : PE X e t' := ⟨fun pins s σ H Q I hw => thn (h.run pins s σ H _ I (m σ H Q hw)) fun u s1 ⟨v, H1, I1, r1, d, o, hd, mu, q⟩ => by
  obtain ⟨od, I2⟩ := I1.lock hd mu
  exact ⟨v, _, I2, r1, q od⟩⟩
end
/-- a comprehension over what a list of one's own tells -/
theorem lc_of {α : Type} {i : Nat} {te : DE} {δ : DS} {Q : List D → Prop} (g h : α → D) : ∀ (xs : List α) (acc : List D), (∀ x ∈ xs, ∀ R : D → Prop, R (h x) → te (δ.set i (some (.sh (g x)))) R) → Q (acc ++ xs.map h) → lcD (gN i) dYes te δ Q (xs.map g) acc
  | [], acc, _, q => by
    rw [List.map_nil, List.append_nil] at q
    exact q
  | x :: xs, acc, hx, q => by
    show te (δ.set i (some (.sh (g x)))) fun y => lcD (gN i) dYes te δ Q (xs.map g) (acc ++ [y])
    refine hx x List.mem_cons_self _ (lc_of g h xs _ (fun z hz => hx z (List.mem_cons_of_mem _ hz)) ?_)
    rw [List.append_assoc]
    exact q
end DL
namespace DL
open PySem PySem.Spec PyProof.Rows L2 Evl
def EvD (r : DE) (δ : DS) (P : D → Prop) : Prop := ∀ Q : D → Prop, (∀ d, P d → Q d) → r δ Q
section
variable {δ : DS} {P P1 P2 : D → Prop} {r r1 r2 : DE} {ra : DA} {W : DEnds} {u : DTS} {i j : Nat}
theorem ev_var {d : D} (h : δ[i]? = some (some (.sh d))) (p : P d) : EvD (dVar i) δ P := fun Q k => by
  unfold dVar
  rw [h]
  exact k d p
theorem ev_c {d : D} (p : P d) : EvD (dC d) δ P := fun Q k => k d p
theorem EvD.mono (h : EvD r δ P1) (w : ∀ d, P1 d → P d) : EvD r δ P := fun Q k => h Q fun d p => k d (w d p)
end
end DL
namespace DL
open PySem PySem.Spec PyProof.Rows L2 Evl
open Sem (wp)
end DL
namespace DL
open PySem PySem.Spec PyProof.Rows L2 Evl
theorem lc_fof {α : Type} {i : Nat} {tt : DT} {te : DE} {δ : DS} {Q : List D → Prop} (g h : α → D) (p : α → Bool) : ∀ (xs : List α) (acc : List D), (∀ x ∈ xs, ∀ R : Bool → Prop, R (p x) → tt (δ.set i (some (.sh (g x)))) R) → (∀ x ∈ xs, p x = true → ∀ R : D → Prop, R (h x) → te (δ.set i (some (.sh (g x)))) R) →
    Q (acc ++ (xs.filter p).map h) → lcD (gN i) tt te δ Q (xs.map g) acc
  | [], acc, _, _, q => by
    rw [List.filter_nil, List.map_nil, List.append_nil] at q
    exact q
  | x :: xs, acc, h1, h2, q => by
    show tt (δ.set i (some (.sh (g x)))) fun b => if b = true then te (δ.set i (some (.sh (g x)))) fun y => lcD (gN i) tt te δ Q (xs.map g) (acc ++ [y]) else lcD (gN i) tt te δ Q (xs.map g) acc
    refine h1 x List.mem_cons_self _ ?_
    cases hp : p x with
    | true =>
      rw [if_pos rfl]
      refine h2 x List.mem_cons_self hp _ (lc_fof g h p xs _ (fun z hz => h1 z (List.mem_cons_of_mem _ hz)) (fun z hz => h2 z (List.mem_cons_of_mem _ hz)) ?_)
      rw [List.filter_cons, if_pos hp] at q
      rw [List.append_assoc]
      exact q
    | false =>
      rw [if_neg Bool.false_ne_true]
      refine lc_fof g h p xs _ (fun z hz => h1 z (List.mem_cons_of_mem _ hz)) (fun z hz => h2 z (List.mem_cons_of_mem _ hz)) ?_
      rw [List.filter_cons, if_neg (by rw [hp]; exact Bool.false_ne_true)] at q
      exact q
end DL
namespace DL
open PySem PySem.Spec PyProof.Rows L2 Evl
def iteS (b : Bool) (t u : DTS) (W : DEnds) (δ : DS) : Prop := if b = true then t W δ else u W δ
def iteE (b : Bool) (r u : DE) (δ : DS) (Q : D → Prop) : Prop := if b = true then r δ Q else u δ Q
def anE (x : D) (r : DE) (δ : DS) (Q : D → Prop) : Prop := match x with
  | .bl c => if c = true then r δ Q else Q (.bl false)
  | _ => False
def orE (x : D) (r : DE) (δ : DS) (Q : D → Prop) : Prop := match x with
  | .bl c => if c = true then Q (.bl true) else r δ Q
  | _ => False
def anT (b : Bool) (u : DT) (δ : DS) (Q : Bool → Prop) : Prop := if b = true then u δ Q else Q false
def orT (b : Bool) (u : DT) (δ : DS) (Q : Bool → Prop) : Prop := if b = true then Q true else u δ Q
def notB (b : Bool) (Q : Bool → Prop) : Prop := Q (!b)
def blD (x : D) (Q : Bool → Prop) : Prop := match x with
  | .bl b => Q b
  | _ => False
def seqD (d : D) (Q : List D → Prop) : Prop := match d with
  | .lst xs => Q xs
  | .tup xs => Q xs
  | .str x => Q (chars x)
  | _ => False
def starD (x : D) (K : List D → Prop) : Prop := match x with
  | .tup xs => K xs
  | .lst xs => K xs
  | _ => False
def szD (n : Nat) (P : Prop) : Prop := match decide (n ≤ 1000) with
  | true => P
  | false => False
def tupD (d : D) (n : Nat) (K : List D → Prop) : Prop := match d with
  | .tup ds => match decide (ds.length = n) with
    | true => K ds
    | false => False
  | _ => False
def lstD (d : D) (n : Nat) (K : List D → Prop) : Prop := match d with
  | .lst ds => match decide (ds.length = n) with
    | true => K ds
    | false => False
  | _ => False
def atD (o : Option D) (Q : D → Prop) : Prop := match o with
  | some d => Q d
  | none => False
def atC (o : Option Nat) (Q : D → Prop) : Prop := match o with
  | some c => Q (.str ⟨#[c]⟩)
  | none => False
def ownO (o : Option (Option SD)) (K : V → OD → Prop) : Prop := match o with
  | some (some (.ow v x)) => K v x
  | _ => False
def intO (x : D) (Q : Option Int → Prop) : Prop := match x with
  | .int i => Q (some i)
  | _ => False
def headL (ds : List D) (K : D → List D → Prop) : Prop := match ds with
  | d :: ds => K d ds
  | [] => False
def nilL (ds : List D) (P : Prop) : Prop := match ds with
  | [] => P
  | _ => False
section
variable {δ : DS} {Q : D → Prop} {QL : List D → Prop} {QB : Bool → Prop} {QO : Option Int → Prop} {QS : DS → Prop} {W : DEnds} {r ra rb : DE} {rA : DA} {tc t u : DT} {ts us : DTS} {a b : Int} {x y : Str} {xs ys ds : List D} {p q : Bool} {n : Bool} {lo hi : Option Int} {rlo rhi : DO} {d : D} {i j k : Nat} {o2 : O2} {o1 : O1} {S : FD} {g : DG} {gs : DGs} {P : Prop} {K : List D → Prop} {vs : List Nat}
theorem z_var0 : dVar 0 (some (.sh d) :: δ) Q = Q d := propext Iff.rfl
theorem z_varS {o : Option SD} : dVar (i + 1) (o :: δ) Q = dVar i δ Q := propext Iff.rfl
theorem z_c : dC d δ Q = Q d := propext Iff.rfl
theorem z_nil : dNil δ QL = QL [] := propext Iff.rfl
theorem z_cons : dCons r rA δ QL = r δ fun x => rA δ fun xs => QL (x :: xs) := propext Iff.rfl
theorem z_tup : dTup rA δ Q = rA δ fun ds => szD ds.length (Q (.tup ds)) := propext Iff.rfl
theorem z_lst : fLst rA δ QL = rA δ fun ds => szD ds.length (QL ds) := propext Iff.rfl
theorem z_sz {n : Nat} (h : n ≤ 1000) : szD n P = P := by unfold szD; rw [decide_eq_true h]
theorem z_f : dF rA δ Q = rA δ fun ds => Q (.lst ds) := propext Iff.rfl
theorem z_op : dOp o2 ra rb δ Q = ra δ fun x => rb δ fun y => o2 x y Q := propext Iff.rfl
theorem z_un : dUn o1 ra δ Q = ra δ fun x => o1 x Q := propext Iff.rfl
theorem z_tBl : tBl r δ QB = r δ fun x => blD x QB := propext Iff.rfl
theorem z_bl : blD (.bl p) QB = QB p := propext Iff.rfl
theorem z_tNt : tNt t δ QB = t δ fun b => notB b QB := propext Iff.rfl
theorem z_notT : notB true QB = QB false := propext Iff.rfl
theorem z_notF : notB false QB = QB true := propext Iff.rfl
theorem z_dNt : dNt ra δ Q = ra δ fun x => blD x fun c => notB c fun c => Q (.bl c) := propext Iff.rfl
theorem z_call : dCall S rA δ Q = rA δ fun ds => S ds Q := propext Iff.rfl
theorem z_next : dNext W δ = W.nx δ := propext Iff.rfl
theorem z_seqS : dSeq ts us W δ = ts { W with nx := us W } δ := propext Iff.rfl
theorem z_ret : dRet r W δ = r δ W.rt := propext Iff.rfl
theorem z_retN : dRetN W δ = W.rt .non := propext Iff.rfl
theorem z_drop : dDrop r W δ = r δ fun _ => W.nx δ := propext Iff.rfl
theorem z_brk : dBrk W δ = W.bk δ := propext Iff.rfl
theorem z_cnt : dCnt W δ = W.ct δ := propext Iff.rfl
theorem z_gN : gN i d δ QS = QS (δ.set i (some (.sh d))) := propext Iff.rfl
theorem z_gsNil : gsNil ds δ QS = nilL ds (QS δ) := propext Iff.rfl
theorem z_gsCons : gsCons g gs ds δ QS = headL ds fun d ds => g d δ fun δ' => gs ds δ' QS := by unfold gsCons headL; rfl
theorem z_headL {K : D → List D → Prop} : headL (d :: ds) K = K d ds := propext Iff.rfl
theorem z_nilL : nilL [] P = P := propext Iff.rfl
theorem z_gT : gT k gs d δ QS = tupD d k fun ds => gs ds δ QS := propext Iff.rfl
theorem z_gL : gL k gs d δ QS = lstD d k fun ds => gs ds δ QS := propext Iff.rfl
theorem z_tupD (h : ds.length = k) : tupD (.tup ds) k K = K ds := by unfold tupD; simp only [h, decide_true]
theorem z_lstD (h : ds.length = k) : lstD (.lst ds) k K = K ds := by unfold lstD; simp only [h, decide_true]
theorem z_asg : dAsg r g W δ = r δ fun d => g d δ W.nx := propext Iff.rfl
theorem z_set : dSet i r W δ = r δ fun d => W.nx (δ.set i (some (.sh d))) := propext Iff.rfl
theorem z_ownO0 {K : V → OD → Prop} {v : V} {x : OD} : ownO (some (.ow v x) :: δ)[0]? K = K v x := propext Iff.rfl
theorem z_ownOS {K : V → OD → Prop} {o : Option SD} : ownO (o :: δ)[i + 1]? K = ownO δ[i]? K := by rw [List.getElem?_cons_succ]
theorem z_frz : dFrz i ts W δ = ownO δ[i]? fun _ x => ts W (δ.set i (some (.sh x.toD))) := propext Iff.rfl
theorem z_for : dFor rA g ts W δ = rA δ fun ds => forD g ts W ds δ := propext Iff.rfl
theorem z_lc {te : DE} {tt : DT} : fLc rA g tt te vs δ QL = rA δ fun ds => ds.length ≤ sizeLine ∧ lcD g tt te (wipeD δ vs) QL ds [] := propext Iff.rfl
theorem z_yes : dYes δ QB = QB true := propext Iff.rfl
theorem z_sl : dSl r rlo rhi δ Q = r δ fun x => rlo δ fun l => rhi δ fun h => oSl x l h Q := propext Iff.rfl
theorem z_noP : noP δ QO = QO none := propext Iff.rfl
theorem z_aP : aP r δ QO = r δ fun x => intO x QO := propext Iff.rfl
theorem z_intO : intO (.int a) QO = QO (some a) := propext Iff.rfl
theorem z_ifS : dIfS tc ts us W δ = tc δ fun b => iteS b ts us W δ := propext Iff.rfl
theorem iteS_t : iteS true ts us W δ = ts W δ := propext Iff.rfl
theorem iteS_f : iteS false ts us W δ = us W δ := propext Iff.rfl
theorem iteS_pos {c : Prop} [Decidable c] (h : c) : iteS (decide c) ts us W δ = ts W δ := by rw [decide_eq_true h]; rfl
theorem iteS_neg {c : Prop} [Decidable c] (h : ¬ c) : iteS (decide c) ts us W δ = us W δ := by rw [decide_eq_false h]; rfl
theorem z_ifE : dIfE tc ra rb δ Q = tc δ fun b => iteE b ra rb δ Q := propext Iff.rfl
theorem iteE_t : iteE true ra rb δ Q = ra δ Q := propext Iff.rfl
theorem iteE_f : iteE false ra rb δ Q = rb δ Q := propext Iff.rfl
theorem iteE_pos {c : Prop} [Decidable c] (h : c) : iteE (decide c) ra rb δ Q = ra δ Q := by rw [decide_eq_true h]; rfl
theorem iteE_neg {c : Prop} [Decidable c] (h : ¬ c) : iteE (decide c) ra rb δ Q = rb δ Q := by rw [decide_eq_false h]; rfl
theorem z_an : dAn ra rb δ Q = ra δ fun x => anE x rb δ Q := propext Iff.rfl
theorem z_or : dOr ra rb δ Q = ra δ fun x => orE x rb δ Q := propext Iff.rfl
theorem anE_t : anE (.bl true) r δ Q = r δ Q := propext Iff.rfl
theorem anE_f : anE (.bl false) r δ Q = Q (.bl false) := propext Iff.rfl
theorem orE_t : orE (.bl true) r δ Q = Q (.bl true) := propext Iff.rfl
theorem orE_f : orE (.bl false) r δ Q = r δ Q := propext Iff.rfl
theorem z_tan : tAn t u δ QB = t δ fun b => anT b u δ QB := propext Iff.rfl
theorem z_tor : tOrr t u δ QB = t δ fun b => orT b u δ QB := propext Iff.rfl
theorem anT_t : anT true u δ QB = u δ QB := propext Iff.rfl
theorem anT_f : anT false u δ QB = QB false := propext Iff.rfl
theorem orT_t : orT true u δ QB = QB true := propext Iff.rfl
theorem orT_f : orT false u δ QB = u δ QB := propext Iff.rfl
theorem z_seq : iSeq r δ QL = r δ fun d => seqD d QL := propext Iff.rfl
theorem z_seqL : seqD (.lst xs) QL = QL xs := propext Iff.rfl
theorem z_seqT : seqD (.tup xs) QL = QL xs := propext Iff.rfl
theorem z_seqSt : seqD (.str x) QL = QL (chars x) := propext Iff.rfl
theorem z_star : dStar r rA δ QL = r δ fun d => starD d fun xs => rA δ fun ys => QL (xs ++ ys) := propext Iff.rfl
theorem z_starT : starD (.tup xs) K = K xs := propext Iff.rfl
theorem z_starL : starD (.lst xs) K = K xs := propext Iff.rfl
theorem z_neg : oNeg (.int a) Q = Q (.int (-a)) := propext Iff.rfl
theorem z_sub : oSub (.int a) (.int b) Q = Q (.int (a - b)) := propext Iff.rfl
theorem z_mod : oMod (.int a) (.int b) Q = (0 < b ∧ Q (.int (a % b))) := propext Iff.rfl
theorem z_div : oDiv (.int a) (.int b) Q = (CDivW a b ∧ Q (.int (a / b))) := propext Iff.rfl
theorem z_lt : oLt (.int a) (.int b) Q = Q (.bl (decide (a < b))) := propext Iff.rfl
theorem z_le : oLe (.int a) (.int b) Q = Q (.bl (decide (a ≤ b))) := propext Iff.rfl
theorem z_gt : oGt (.int a) (.int b) Q = Q (.bl (decide (b < a))) := propext Iff.rfl
theorem z_ge : oGe (.int a) (.int b) Q = Q (.bl (decide (b ≤ a))) := propext Iff.rfl
theorem z_addI : oAdd (.int a) (.int b) Q = Q (.int (a + b)) := propext Iff.rfl
theorem z_addS : oAdd (.str x) (.str y) Q = (x.length + y.length ≤ sizeLine ∧ Q (.str (x ++ y))) := propext Iff.rfl
theorem z_addL : oAdd (.lst xs) (.lst ys) Q = (xs.length + ys.length ≤ sizeLine ∧ Q (.lst (xs ++ ys))) := propext Iff.rfl
theorem z_addT : oAdd (.tup xs) (.tup ys) Q = ((xs ≠ [] ∧ xs.length + ys.length ≤ sizeLine) ∧ Q (.tup (xs ++ ys))) := propext Iff.rfl
theorem z_mulI : oMul (.int a) (.int b) Q = (MulOkD a b ∧ Q (.int (a * b))) := propext Iff.rfl
theorem z_mulS : oMul (.str x) (.int b) Q = ((0 ≤ b ∧ b ≤ 100000 ∧ x.length ≤ 100) ∧ Q (.str (repS x b.toNat))) := propext Iff.rfl
theorem z_mulL : oMul (.lst xs) (.int b) Q = ((-(2 ^ 63) ≤ b ∧ b < 2 ^ 63 ∧ xs.length * b.toNat ≤ sizeLine) ∧ Q (.lst (List.replicate b.toNat xs).flatten)) := propext Iff.rfl
theorem z_atD : atD (some d) Q = Q d := propext Iff.rfl
theorem z_atC {c : Nat} : atC (some c) Q = Q (.str ⟨#[c]⟩) := propext Iff.rfl
theorem z_ixL : oIx (.lst xs) (.int a) Q = atD (atI xs a) Q := propext Iff.rfl
theorem z_ixT : oIx (.tup xs) (.int a) Q = atD (atI xs a) Q := propext Iff.rfl
theorem z_ixS : oIx (.str x) (.int a) Q = (x.length ≤ sizeLine ∧ atC (atI x.cps.toList a) Q) := propext Iff.rfl
theorem z_ixL0 {e0 : D} : oIx (.lst (e0 :: xs)) (.int 0) Q = Q e0 := by
  show atD (atI _ 0) Q = _
  rw [atI0]
  rfl
theorem z_ixL1 {e0 e1 : D} : oIx (.lst (e0 :: e1 :: xs)) (.int 1) Q = Q e1 := by
  show atD (atI _ 1) Q = _
  rw [atI1]
  rfl
theorem z_ixL2 {e0 e1 e2 : D} : oIx (.lst (e0 :: e1 :: e2 :: xs)) (.int 2) Q = Q e2 := by
  show atD (atI _ 2) Q = _
  rw [atI2]
  rfl
theorem z_ixL3 {e0 e1 e2 e3 : D} : oIx (.lst (e0 :: e1 :: e2 :: e3 :: xs)) (.int 3) Q = Q e3 := by
  show atD (atI _ 3) Q = _
  rw [atI3]
  rfl
theorem z_ixL4 {e0 e1 e2 e3 e4 : D} : oIx (.lst (e0 :: e1 :: e2 :: e3 :: e4 :: xs)) (.int 4) Q = Q e4 := by
  show atD (atI _ 4) Q = _
  rw [atI4]
  rfl
theorem z_ixL5 {e0 e1 e2 e3 e4 e5 : D} : oIx (.lst (e0 :: e1 :: e2 :: e3 :: e4 :: e5 :: xs)) (.int 5) Q = Q e5 := by
  show atD (atI _ 5) Q = _
  rw [atI5]
  rfl
theorem z_ixL6 {e0 e1 e2 e3 e4 e5 e6 : D} : oIx (.lst (e0 :: e1 :: e2 :: e3 :: e4 :: e5 :: e6 :: xs)) (.int 6) Q = Q e6 := by
  show atD (atI _ 6) Q = _
  rw [atI6]
  rfl
theorem z_ixL7 {e0 e1 e2 e3 e4 e5 e6 e7 : D} : oIx (.lst (e0 :: e1 :: e2 :: e3 :: e4 :: e5 :: e6 :: e7 :: xs)) (.int 7) Q = Q e7 := by
  show atD (atI _ 7) Q = _
  rw [atI7]
  rfl
theorem z_ixT0 {e0 : D} : oIx (.tup (e0 :: xs)) (.int 0) Q = Q e0 := by
  show atD (atI _ 0) Q = _
  rw [atI0]
  rfl
theorem z_ixT1 {e0 e1 : D} : oIx (.tup (e0 :: e1 :: xs)) (.int 1) Q = Q e1 := by
  show atD (atI _ 1) Q = _
  rw [atI1]
  rfl
theorem z_ixT2 {e0 e1 e2 : D} : oIx (.tup (e0 :: e1 :: e2 :: xs)) (.int 2) Q = Q e2 := by
  show atD (atI _ 2) Q = _
  rw [atI2]
  rfl
theorem z_ixT3 {e0 e1 e2 e3 : D} : oIx (.tup (e0 :: e1 :: e2 :: e3 :: xs)) (.int 3) Q = Q e3 := by
  show atD (atI _ 3) Q = _
  rw [atI3]
  rfl
theorem z_ixT4 {e0 e1 e2 e3 e4 : D} : oIx (.tup (e0 :: e1 :: e2 :: e3 :: e4 :: xs)) (.int 4) Q = Q e4 := by
  show atD (atI _ 4) Q = _
  rw [atI4]
  rfl
theorem z_ixT5 {e0 e1 e2 e3 e4 e5 : D} : oIx (.tup (e0 :: e1 :: e2 :: e3 :: e4 :: e5 :: xs)) (.int 5) Q = Q e5 := by
  show atD (atI _ 5) Q = _
  rw [atI5]
  rfl
theorem z_ixT6 {e0 e1 e2 e3 e4 e5 e6 : D} : oIx (.tup (e0 :: e1 :: e2 :: e3 :: e4 :: e5 :: e6 :: xs)) (.int 6) Q = Q e6 := by
  show atD (atI _ 6) Q = _
  rw [atI6]
  rfl
theorem z_ixT7 {e0 e1 e2 e3 e4 e5 e6 e7 : D} : oIx (.tup (e0 :: e1 :: e2 :: e3 :: e4 :: e5 :: e6 :: e7 :: xs)) (.int 7) Q = Q e7 := by
  show atD (atI _ 7) Q = _
  rw [atI7]
  rfl
theorem z_eqS : oEq (.str x) (.str y) Q = Q (.bl (decide (x = y))) := propext Iff.rfl
theorem z_eqI : oEq (.int a) (.int b) Q = Q (.bl (decide (a = b))) := propext Iff.rfl
theorem z_eqB : oEq (.bl p) (.bl q) Q = Q (.bl (p == q)) := propext Iff.rfl
theorem z_eqL : oEq (.lst xs) (.lst ys) Q = ((plain (.lst xs) = true ∧ plain (.lst ys) = true) ∧ Q (.bl (eqb (.lst xs) (.lst ys)))) := propext Iff.rfl
theorem z_eqT : oEq (.tup xs) (.tup ys) Q = ((plain (.tup xs) = true ∧ plain (.tup ys) = true) ∧ Q (.bl (eqb (.tup xs) (.tup ys)))) := propext Iff.rfl
theorem z_neS : oNe (.str x) (.str y) Q = Q (.bl (!decide (x = y))) := propext Iff.rfl
theorem z_neI : oNe (.int a) (.int b) Q = Q (.bl (!decide (a = b))) := propext Iff.rfl
theorem z_neB : oNe (.bl p) (.bl q) Q = Q (.bl (!(p == q))) := propext Iff.rfl
theorem z_neL : oNe (.lst xs) (.lst ys) Q = ((plain (.lst xs) = true ∧ plain (.lst ys) = true) ∧ Q (.bl (!eqb (.lst xs) (.lst ys)))) := propext Iff.rfl
theorem z_neT : oNe (.tup xs) (.tup ys) Q = ((plain (.tup xs) = true ∧ plain (.tup ys) = true) ∧ Q (.bl (!eqb (.tup xs) (.tup ys)))) := propext Iff.rfl
theorem z_inL : oIn false d (.lst ys) Q = ((isFlat d = true ∧ ys.all isFlat = true) ∧ Q (.bl (inD d ys))) := propext Iff.rfl
theorem z_inT : oIn false d (.tup ys) Q = ((isFlat d = true ∧ ys.all isFlat = true) ∧ Q (.bl (inD d ys))) := propext Iff.rfl
theorem z_ninL : oIn true d (.lst ys) Q = ((isFlat d = true ∧ ys.all isFlat = true) ∧ Q (.bl (!inD d ys))) := propext Iff.rfl
theorem z_ninT : oIn true d (.tup ys) Q = ((isFlat d = true ∧ ys.all isFlat = true) ∧ Q (.bl (!inD d ys))) := propext Iff.rfl
theorem z_inK : oIn false d (.ktup ys) Q = ((isFlat d = true ∧ ys.all isFlat = true) ∧ Q (.bl (inD d ys))) := propext Iff.rfl
theorem z_ninK : oIn true d (.ktup ys) Q = ((isFlat d = true ∧ ys.all isFlat = true) ∧ Q (.bl (!inD d ys))) := propext Iff.rfl
theorem z_slL : oSl (.lst xs) lo hi Q = Q (.lst (cut xs lo hi)) := propext Iff.rfl
theorem z_slT : oSl (.tup xs) lo hi Q = Q (.tup (cut xs lo hi)) := propext Iff.rfl
theorem z_slS : oSl (.str x) lo hi Q = (x.length ≤ sizeLine ∧ Q (.str ⟨(cut x.cps.toList lo hi).toArray⟩)) := propext Iff.rfl
theorem z_lenL : cLen [.lst xs] Q = Q (.int xs.length) := propext Iff.rfl
theorem z_lenT : cLen [.tup xs] Q = Q (.int xs.length) := propext Iff.rfl
theorem z_lenS : cLen [.str x] Q = (x.length ≤ sizeLine ∧ Q (.int x.length)) := propext Iff.rfl
theorem z_intI : cInt [.int a] Q = Q (.int a) := propext Iff.rfl
theorem z_intB : cInt [.bl p] Q = Q (.int (if p then 1 else 0)) := propext Iff.rfl
theorem z_abs : cAbs [.int a] Q = Q (.int (if a < 0 then -a else a)) := propext Iff.rfl
theorem z_max : cMax [.int a, .int b] Q = Q (.int (if b > a then b else a)) := propext Iff.rfl
theorem z_tupL : cTuple [.lst xs] Q = Q (.tup xs) := propext Iff.rfl
theorem z_tupT : cTuple [.tup xs] Q = Q (.tup xs) := propext Iff.rfl
theorem z_par {i j : Nat} {r1 r2 : DE} : dPar i j (dCons r1 (dCons r2 dNil)) W δ = r1 δ fun x => r2 δ fun y => W.nx ((δ.set i (some (.sh x))).set j (some (.sh y))) := propext Iff.rfl
end
def r1D (ds : List D) (QL : List D → Prop) : Prop := match ds with
  | [.int n] => (-(2 ^ 62) ≤ n ∧ n < 2 ^ 62) ∧ QL (ups 0 n.toNat)
  | _ => False
def r2D (ds : List D) (QL : List D → Prop) : Prop := match ds with
  | [.int i, .int j] => (-(2 ^ 62) ≤ i ∧ i < 2 ^ 62 ∧ -(2 ^ 62) ≤ j ∧ j < 2 ^ 62) ∧ QL (ups i (j - i).toNat)
  | _ => False
def fldD (C i : Nat) (d : D) (Q : D → Prop) : Prop := match d with
  | .obj C' fs => C' = C ∧ atD fs[i]? Q
  | _ => False
def isiD (T : String) (d : D) (Q : D → Prop) : Prop := match pureD d with
  | true => Q (.bl (isi T d))
  | false => False
def mtD (T : String) (m : OM) (x : D) (rA : DA) (δ : DS) (Q : D → Prop) : Prop := match isT T x with
  | true => rA δ fun ds => m x ds Q
  | false => False
section
variable {δ : DS} {Q : D → Prop} {QL : List D → Prop} {r ra rb : DE} {rA : DA} {a b : Int} {x : Str} {xs ds : List D} {d : D} {C C' i : Nat} {S : FD} {SI : FI} {ks : List Str} {kv : List (D × D)} {T : String} {m : OM} {p : Bool}
theorem z_r1 : iR1 rA δ QL = rA δ fun ds => r1D ds QL := propext Iff.rfl
theorem z_r1D : r1D [.int a] QL = ((-(2 ^ 62) ≤ a ∧ a < 2 ^ 62) ∧ QL (ups 0 a.toNat)) := propext Iff.rfl
theorem z_r2 : iR2 rA δ QL = rA δ fun ds => r2D ds QL := propext Iff.rfl
theorem z_r2D : r2D [.int a, .int b] QL = ((-(2 ^ 62) ≤ a ∧ a < 2 ^ 62 ∧ -(2 ^ 62) ≤ b ∧ b < 2 ^ 62) ∧ QL (ups a (b - a).toNat)) := propext Iff.rfl
theorem z_fld : dFld C i r δ Q = r δ fun d => fldD C i d Q := propext Iff.rfl
theorem z_fldD : fldD C i (.obj C xs) Q = atD xs[i]? Q := by
  show (C = C ∧ _) = _
  simp
theorem z_prop : dProp C S r δ Q = r δ fun d => isO C d ∧ S [d] Q := propext Iff.rfl
theorem z_isO : isO C (.obj C xs) = True := by
  show (C = C) = True
  simp
theorem z_meth : dMeth C S r rA δ Q = r δ fun d => isO C d ∧ rA δ fun ds => S (d :: ds) Q := propext Iff.rfl
theorem z_callO : dCallO C S r rA δ Q = r δ fun d => isO C d ∧ rA δ fun ds => S (d :: ds) Q := propext Iff.rfl
theorem z_make : dMake C SI rA δ Q = rA δ fun ds => SI ds fun fs => Q (.obj C fs) := propext Iff.rfl
theorem z_own2 {x y : D} : oOwn C S x y Q = (isO C x ∧ isO C y ∧ S [x, y] Q) := propext Iff.rfl
theorem z_own1 {x : D} : oOwn1 C S x Q = (isO C x ∧ S [x] Q) := propext Iff.rfl
theorem z_ownNe {x y : D} : oOwnNe C S x y Q = (isO C x ∧ isO C y ∧ S [x, y] fun z => blD z fun b => Q (.bl (!b))) := propext Iff.rfl
theorem z_isi : dIsi T r δ Q = r δ fun d => isiD T d Q := propext Iff.rfl
theorem z_isiN : isiD T .non Q = Q (.bl (isi T .non)) := propext Iff.rfl
theorem z_isiB : isiD T (.bl p) Q = Q (.bl (isi T (.bl p))) := propext Iff.rfl
theorem z_isiI : isiD T (.int a) Q = Q (.bl (isi T (.int a))) := propext Iff.rfl
theorem z_isiS : isiD T (.str x) Q = Q (.bl (isi T (.str x))) := propext Iff.rfl
theorem z_isiL : isiD T (.lst xs) Q = Q (.bl (isi T (.lst xs))) := propext Iff.rfl
theorem z_isiT : isiD T (.tup xs) Q = Q (.bl (isi T (.tup xs))) := propext Iff.rfl
theorem z_isiD : isiD T (.dic kv) Q = Q (.bl (isi T (.dic kv))) := propext Iff.rfl
theorem z_mt : dMt T m r rA δ Q = r δ fun x => mtD T m x rA δ Q := propext Iff.rfl
theorem z_mtS : mtD "str" m (.str x) rA δ Q = rA δ fun ds => m (.str x) ds Q := propext Iff.rfl
theorem z_mtL : mtD "list" m (.lst xs) rA δ Q = rA δ fun ds => m (.lst xs) ds Q := propext Iff.rfl
end
end DL
namespace DL
open PySem PySem.Spec PyProof.Rows L2 Evl
def KdAll (K : PySem.W.Frag) (a : Addr) : List (Str × Str) → Prop
  | [] => True
  | (x, v) :: r => (∃ t, PySem.W.nsIn K a x = some (some (.str v t))) ∧ KdAll K a r
structure KDs (K : PySem.W.Frag) (w : World) (a : Addr) (tbl : List (Str × Str)) : Prop where
  ex : ∃ es n, K.lookup a = some ⟨.type "dict", none, .dict es n, #[]⟩ ∧ PySem.W.KeysLit w.params es.toList
  all : KdAll K a tbl
def kget (tbl : List (Str × Str)) (x : Str) : Option Str := (tbl.find? fun z => decide (z.1 = x)).map (·.2)
theorem kget_at {K : PySem.W.Frag} {a : Addr} {x v : Str} : ∀ {tbl : List (Str × Str)}, KdAll K a tbl → kget tbl x = some v → ∃ t, PySem.W.nsIn K a x = some (some (.str v t))
  | [], _, h => by cases h
  | (y, u) :: r, h1, h => by
    unfold kget at h
    rw [List.find?_cons] at h
    by_cases e : y = x
    · subst e
      simp only [decide_true, Option.map_some, Option.some.injEq] at h
      subst h
      exact h1.1
    · rw [decide_eq_false e] at h
      exact kget_at h1.2 h
theorem KDs.at {K : PySem.W.Frag} {w : World} {a : Addr} {tbl : List (Str × Str)} {x v : Str} (h : KDs K w a tbl) (e : kget tbl x = some v) : KDct K w a x (.str v) := by
  obtain ⟨es, n, h1, h2⟩ := h.ex
  obtain ⟨t, h3⟩ := kget_at h.all e
  exact ⟨es, n, .str v t, h1, h2, h3, t, rfl⟩
end DL
namespace DL
open PySem PySem.Spec PyProof.Rows L2 Evl
section
variable {X : Cx} {B : Bx} {e : Expr} {r : DE} {pos : Pos}
def enumD (xs : List D) : List D := xs.zipIdx.map fun z => .tup [.int (z.2 : Nat), z.1]
theorem enum_len (xs : List D) : (enumD xs).length = xs.length := by simp [enumD]
theorem enum_at {xs : List D} {i : Nat} {d : D} (h : (enumD xs)[i]? = some d) : ∃ x, xs[i]? = some x ∧ d = .tup [.int (i : Nat), x] := by
  unfold enumD at h
  rw [List.getElem?_map, List.getElem?_zipIdx] at h
  cases hx : xs[i]? with
  | none => rw [hx] at h; cases h
  | some x =>
    rw [hx] at h
    simp only [Option.map_some, Option.some.injEq, Nat.zero_add] at h
    exact ⟨x, rfl, h.symm⟩
def enD (d : D) (Q : List D → Prop) : Prop := match d with
  | .lst xs => Q (enumD xs)
  | _ => False
def iEn (ra : DA) : DA := fun δ Q => ra δ fun ds => match ds with
  | [d] => enD d Q
  | _ => False
theorem itd_enum {K : PySem.W.Frag} {G : Hp} {a : Addr} {xs : List V} {ds : List D} (h : G a = some (.lst xs)) (hd : Dats K B G xs ds) : ItD K B (Ite K a) G (enumD ds) where
  go := fun i G1 H e j hi => by
    rw [enum_len] at hi
    exact ⟨xs, xs[i]'(by rw [hd.len]; exact hi), sq_of (j.ex _ _ (e _ _ h)), by simp⟩
  yld := fun i G1 H x H' d e j y hi => by
    obtain ⟨T, u, rfl, hT, rfl, y⟩ := y
    obtain ⟨z, hz, rfl⟩ := enum_at hi
    have q := y xs (sq_of (j.ex _ _ (e _ _ h)))
    obtain ⟨w, h1, h2⟩ := hd.get hz
    rw [q] at h1
    cases h1
    have g := Gr.new (o := .tup [.int (i : Nat), u]) j hT
    exact ⟨_, g, .tup upd_same (.cons (.int _) (.cons (h2.mono (e.trans g.ex)) .nil))⟩
  stop := fun i G1 H e j hi => by
    rw [enum_len] at hi
    exact ⟨xs, sq_of (j.ex _ _ (e _ _ h)), by rw [hd.len]; exact hi⟩
theorem pid_enum {elts : List Expr} {kk : Nat} {ra : DA} {p tpos : Pos} (hg : Gl X "enumerate") (hm : X.mg "enumerate" = none) (ha : PAD X B [e] ra) (hs : starEach [e] X.env = [(false, eval e X.env)] := by rfl) :
    PID X B (.Tuple elts kk tpos) (.Call (.Name "enumerate" p) [e] [] pos) (iEn ra) :=
  ⟨fun pins s σ H R I h => (pi_enum (elts := elts) (kk := kk) (tpos := tpos) hg hm ha hs).run pins s σ H R I (by
    obtain ⟨H0, G, δ, Q, j, st, hr, k⟩ := h
    refine ⟨H0, G, δ, _, j, st, hr, fun ds vs G2 H2 q2 g2 h2 => ?_⟩
    cases h2 with
    | nil => exact q2.elim
    | cons h3 h4 =>
      cases h4 with
      | cons _ _ => exact q2.elim
      | nil =>
        cases h3 with
        | lst h5 h6 => exact ⟨_, _, rfl, sq_of (g2.j.ex _ _ h5), k _ _ G2 H2 q2 g2 (itd_enum h5 h6)⟩
        | _ => exact q2.elim)⟩
def enLD (ds : List D) (Q : List D → Prop) : Prop := match ds with
  | [d] => enD d Q
  | _ => False
theorem z_en {ra : DA} {δ : DS} {Q : List D → Prop} : iEn ra δ Q = ra δ fun ds => enLD ds Q := propext Iff.rfl
theorem z_enL {d : D} {Q : List D → Prop} : enLD [d] Q = enD d Q := propext Iff.rfl
theorem z_enD {xs : List D} {Q : List D → Prop} : enD (.lst xs) Q = Q (enumD xs) := propext Iff.rfl
theorem enum2 (x y : D) : enumD [x, y] = [.tup [.int 0, x], .tup [.int 1, y]] := rfl
end
theorem for_find {α : Type} {g : DG} {tb : DTS} {W : DEnds} (I : DS → Prop) (f : α → Option D) (en : α → D) : ∀ (xs : List α),
    (∀ x ∈ xs, ∀ δ, I δ → ∀ K : DS → Prop, (f x = none → ∀ δ2, I δ2 → K δ2) → (∀ v, f x = some v → W.rt v) → g (en x) δ fun δ' => tb { W with nx := K, ct := K, bk := W.nx } δ') →
    (∀ v, xs.findSome? f = some v → W.rt v) → (xs.findSome? f = none → ∀ δ, I δ → W.nx δ) → ∀ δ, I δ → forD g tb W (xs.map en) δ
  | [], _, _, hn, δ, hi => hn rfl δ hi
  | x :: xs, hb, hr, hn, δ, hi => by
    have e : (x :: xs).findSome? f = (match f x with | some v => some v | none => xs.findSome? f) := by rw [List.findSome?_cons]; cases f x <;> rfl
    show g (en x) δ fun δ' => tb { W with nx := forD g tb W (xs.map en), ct := forD g tb W (xs.map en), bk := W.nx } δ'
    refine hb x List.mem_cons_self δ hi _ (fun hf => ?_) (fun v hv => hr v (by rw [e, hv]))
    rw [e, hf] at hr hn
    exact for_find I f en xs (fun z hz => hb z (List.mem_cons_of_mem _ hz)) hr hn
theorem ex_str {K : PySem.W.Frag} {mg : Str → Option Value} {h : Heap} {x v : Str} {t : Tok} (X : K.In h) (G : h.Ns mainGlobals mg) (a : PySem.W.nsIn K mainGlobals x = some (some (.str v t))) : ∃ t, mg x = some (.str v t) := ⟨t, PySem.W.mg_of X G a⟩
theorem ups_map (lo : Int) (n : Nat) : ups lo n = (List.range n).map fun k : Nat => D.int (lo + (k : Int)) := rfl
end DL
namespace DL
open PySem PySem.Spec PyProof.Rows L2 Evl
abbrev OE := DS → (OD → Prop) → Prop
abbrev OA := DS → (List OD → Prop) → Prop
abbrev FO := List D → (OD → Prop) → Prop
def Fresh (B : Bx) (H : Hp) (f : List Addr) : Prop := f.Nodup ∧ ∀ p ∈ f, H p = none ∧ B.nb p
def liftW (K : PySem.W.Frag) (B : Bx) (r : OE) : TE := fun σ H P => ∃ (H0 G : Hp) (δ : DS) (Q : OD → Prop), Jn K B G H ∧ StOk K B H0 G H σ δ ∧ r δ Q ∧ ∀ o v f G2 H2, Q o → Gr K B G H G2 H2 → Own K B G2 H2 v o f → Fresh B H f → P v H2
abbrev PO (X : Cx) (B : Bx) (e : Expr) (r : OE) : Prop := PE X e (liftW X.K B r)
section
variable {K : PySem.W.Frag} {B : Bx} {G H G2 H2 : Hp}
theorem Gr.kept (g : Gr K B G H G2 H2) {f : List Addr} (h : ∀ p ∈ f, Mu H p ∧ B.nb p) : Kept G H G2 H2 f := fun p hp => by
  refine ⟨?_, g.old p (h p hp).1⟩
  cases q : H p with
  | none => exact absurd q (h p hp).1.ne
  | some o => exact g.keep p o (h p hp).2 q
theorem Own.gr {v : V} {o : OD} {f : List Addr} (h : Own K B G H v o f) (g : Gr K B G H G2 H2) (hf : ∀ p ∈ f, B.nb p) : Own K B G2 H2 v o f := h.keep g.ex (g.kept fun p hp => ⟨(h.node p hp).at, hf p hp⟩)
theorem Owns.gr {v : List V} {o : List OD} {f : List Addr} (h : Owns K B G H v o f) (g : Gr K B G H G2 H2) (hf : ∀ p ∈ f, B.nb p) : Owns K B G2 H2 v o f := h.keep g.ex (g.kept fun p hp => ⟨(h.node p hp).at, hf p hp⟩)
theorem Fresh.nil : Fresh B H [] := ⟨List.nodup_nil, fun p hp => nomatch hp⟩
end
section
variable {X : Cx} {B : Bx} {e : Expr} {es : List Expr} {r : DE} {ra : DA} {ro : OE} {rao : OA} {pos : Pos}
def oD (r : DE) : OE := fun δ Q => r δ fun d => Q (.sh d)
def oF (ra : DA) : OE := fun δ Q => ra δ fun ds => Q (.lst (ds.map .sh))
theorem po_f (h : PF X B e ra) : PO X B e (oF ra) := pe_mono h fun σ H P q => by
  obtain ⟨H0, G, δ, Q, j, st, hr, k⟩ := q
  refine ⟨H0, G, δ, _, j, st, hr, fun ds p vs G2 H2 q2 g2 hp gp h2 hd => k _ _ [p] G2 H2 q2 g2 (.lst h2 gp (Owns.of hd)) ⟨List.nodup_cons.mpr ⟨List.not_mem_nil, List.nodup_nil⟩, fun q hq => ?_⟩⟩
  cases List.mem_singleton.mp hq
  exact ⟨hp, Gr.neB j hp⟩
/-- x = e -/
def dSetT (i : Nat) (ro : OE) : DTS := fun W δ => ro δ fun o => ∀ v, W.nx (δ.set i (some (.ow v o)))
theorem psd_setT {i : Nat} {x : Str} {pos' : Pos} (hN : X.N.Nodup) (hi : X.N[i]? = some x) (hx : Loc X.env.scope x) (he : PO X B e ro) (hs : swapsWith e (some (.Name x pos')) pos.line X.env = pure false := by rfl) (hf : X.fn x = true ∨ X.env.scope.names.lookup x = some .local := by first | exact .inl rfl | exact .inr rfl | assumption) :
    PSD X B (.Assign [.Name x pos'] e pos) (dSetT i ro) := ps_mono (ps_set hN hi hx he hs hf) fun E σ H q => by
  obtain ⟨G0, H0, G, δ, W, g0, s, h, k⟩ := q
  refine ⟨H0, G, δ, _, g0.j, s, h, fun o v f G2 H2 q2 g2 h2 f2 => ?_⟩
  exact k.nx _ _ _ _ (q2 v) (g0.trans g2) g2.ex (s.setO g2 h2 f2.1 fun p hp => ⟨(f2.2 p hp).1, g0.free (f2.2 p hp).1, (f2.2 p hp).2⟩)
end
end DL
namespace DL
open PySem PySem.Spec PyProof.Rows L2 Evl
def getO : OD → List Nat → Option OD
  | o, [] => some o
  | .lst xs, k :: π => match xs[k]? with
    | some x => getO x π
    | none => none
  | .dic _ ks, k :: π => match ks[k]? with
    | some z => getO z.2 π
    | none => none
  | .sh _, _ :: _ => none
def setO : OD → List Nat → OD → OD
  | _, [], s => s
  | .lst xs, k :: π, s => match xs[k]? with
    | some x => .lst (xs.set k (setO x π s))
    | none => .lst xs
  | .dic t ks, k :: π, s => match ks[k]? with
    | some z => .dic t (ks.set k (z.1, setO z.2 π s))
    | none => .dic t ks
  | .sh d, _ :: _, _ => .sh d
def locV (H : Hp) : V → List Nat → Option V
  | v, [] => some v
  | .ref p, k :: π => match H p with
    | some (.lst vs) => match vs[k]? with
      | some u => locV H u π
      | none => none
    | some (.dK vs) => match vs[k]? with
      | some u => locV H u.2 π
      | none => none
    | some (.dT vs) => match vs[k]? with
      | some u => locV H u.2 π
      | none => none
    | _ => none
  | _, _ :: _ => none
section
variable {K : PySem.W.Frag} {B : Bx} {G H : Hp}
theorem Owns.at : ∀ {vs : List V} {xs : List OD} {f : List Addr} {k : Nat} {x : OD}, Owns K B G H vs xs f → xs[k]? = some x → ∃ u f1 fk f2, vs[k]? = some u ∧ f = f1 ++ (fk ++ f2) ∧ Own K B G H u x fk ∧
    ∀ {G2 H2 : Hp} {x' : OD} {u' : V} {fk' : List Addr}, Ex G G2 → Kept G H G2 H2 f1 → Kept G H G2 H2 f2 → Own K B G2 H2 u' x' fk' → Owns K B G2 H2 (vs.set k u') (xs.set k x') (f1 ++ (fk' ++ f2))
  | _, _, _, 0, _, .cons (v := v) (f := f) (g := g) h t, e => by
    cases e
    exact ⟨v, [], f, g, rfl, rfl, h, fun ex _ k2 h2 => by rw [List.nil_append]; exact .cons h2 (t.keep ex k2)⟩
  | _, _, _, k + 1, x, .cons (v := v) (f := f) (vs := vs) (os := os) h t, e => by
    obtain ⟨u, f1, fk, f2, a1, a2, a3, a4⟩ := Owns.at (k := k) (x := x) t e
    refine ⟨u, f ++ f1, fk, f2, a1, by rw [a2, List.append_assoc], a3, fun ex k1 k2 h2 => ?_⟩
    have z := Owns.cons (h.keep ex k1.l) (a4 ex k1.r k2 h2)
    rw [List.append_assoc]
    exact z
theorem OwnK.at : ∀ {vs : List (Key × V)} {xs : List (D × OD)} {f : List Addr} {k : Nat} {d : D} {x : OD}, OwnK K B G H vs xs f → xs[k]? = some (d, x) → ∃ key u f1 fk f2, vs[k]? = some (key, u) ∧ f = f1 ++ (fk ++ f2) ∧ Own K B G H u x fk ∧ ((∃ i, key = .inl i ∧ d = .int i) ∨ ∃ s, key = .inr s ∧ d = .str s) ∧
    ∀ {G2 H2 : Hp} {x' : OD} {u' : V} {fk' : List Addr}, Ex G G2 → Kept G H G2 H2 f1 → Kept G H G2 H2 f2 → Own K B G2 H2 u' x' fk' → OwnK K B G2 H2 (vs.set k (key, u')) (xs.set k (d, x')) (f1 ++ (fk' ++ f2))
  | _, _, _, 0, _, _, .consI (i := i) (v := v) (f := f) (g := g) h t, e => by
    cases e
    exact ⟨_, v, [], f, g, rfl, rfl, h, .inl ⟨i, rfl, rfl⟩, fun ex _ k2 h2 => by rw [List.nil_append]; exact .consI h2 (t.keep ex k2)⟩
  | _, _, _, 0, _, _, .consS (x := i) (v := v) (f := f) (g := g) h t, e => by
    cases e
    exact ⟨_, v, [], f, g, rfl, rfl, h, .inr ⟨i, rfl, rfl⟩, fun ex _ k2 h2 => by rw [List.nil_append]; exact .consS h2 (t.keep ex k2)⟩
  | _, _, _, k + 1, d, x, .consI (i := i) (v := v) (f := f) h t, e => by
    obtain ⟨key, u, f1, fk, f2, a1, a2, a3, a5, a4⟩ := OwnK.at (k := k) (d := d) (x := x) t e
    refine ⟨key, u, f ++ f1, fk, f2, a1, by rw [a2, List.append_assoc], a3, a5, fun ex k1 k2 h2 => ?_⟩
    have z := OwnK.consI (i := i) (h.keep ex k1.l) (a4 ex k1.r k2 h2)
    rw [List.append_assoc]
    exact z
  | _, _, _, k + 1, d, x, .consS (x := i) (v := v) (f := f) h t, e => by
    obtain ⟨key, u, f1, fk, f2, a1, a2, a3, a5, a4⟩ := OwnK.at (k := k) (d := d) (x := x) t e
    refine ⟨key, u, f ++ f1, fk, f2, a1, by rw [a2, List.append_assoc], a3, a5, fun ex k1 k2 h2 => ?_⟩
    have z := OwnK.consS (x := i) (h.keep ex k1.l) (a4 ex k1.r k2 h2)
    rw [List.append_assoc]
    exact z
theorem OwnT.at : ∀ {vs : List (List Key × V)} {xs : List (D × OD)} {f : List Addr} {k : Nat} {d : D} {x : OD}, OwnT K B G H vs xs f → xs[k]? = some (d, x) → ∃ key u f1 fk f2, vs[k]? = some (key, u) ∧ f = f1 ++ (fk ++ f2) ∧ Own K B G H u x fk ∧ d = embT key ∧
    ∀ {G2 H2 : Hp} {x' : OD} {u' : V} {fk' : List Addr}, Ex G G2 → Kept G H G2 H2 f1 → Kept G H G2 H2 f2 → Own K B G2 H2 u' x' fk' → OwnT K B G2 H2 (vs.set k (key, u')) (xs.set k (d, x')) (f1 ++ (fk' ++ f2))
  | _, _, _, 0, _, _, .cons (k := i) (v := v) (f := f) (g := g) h t, e => by
    cases e
    exact ⟨_, v, [], f, g, rfl, rfl, h, rfl, fun ex _ k2 h2 => by rw [List.nil_append]; exact .cons h2 (t.keep ex k2)⟩
  | _, _, _, k + 1, d, x, .cons (k := i) (v := v) (f := f) h t, e => by
    obtain ⟨key, u, f1, fk, f2, a1, a2, a3, a5, a4⟩ := OwnT.at (k := k) (d := d) (x := x) t e
    refine ⟨key, u, f ++ f1, fk, f2, a1, by rw [a2, List.append_assoc], a3, a5, fun ex k1 k2 h2 => ?_⟩
    have z := OwnT.cons (k := i) (h.keep ex k1.l) (a4 ex k1.r k2 h2)
    rw [List.append_assoc]
    exact z
theorem set_get {α : Type} : ∀ {l : List α} {k : Nat} {a : α}, l[k]? = some a → l.set k a = l
  | _ :: _, 0, _, e => by cases e; rfl
  | x :: l, k + 1, a, e => by rw [List.set_cons_succ, set_get (l := l) (k := k) (a := a) e]
/-- the part's own places replaced within all of them -/
theorem nodup_mid {p : Addr} {f1 fk f2 fk' : List Addr} {fs : List Addr} (nd : (p :: (f1 ++ (fk ++ f2))).Nodup) (nk : fk'.Nodup) (h : ∀ q ∈ fk', q ∈ fs ∨ q ∈ fk) (hs : ∀ q ∈ fs, q ∈ fk ∨ q ∉ (p :: (f1 ++ (fk ++ f2)))) : (p :: (f1 ++ (fk' ++ f2))).Nodup := by
  obtain ⟨n0, n1⟩ := List.nodup_cons.mp nd
  obtain ⟨a1, a2, a3⟩ := List.nodup_append.mp n1
  obtain ⟨b1, b2, b3⟩ := List.nodup_append.mp a2
  have key : ∀ q ∈ fk', q ∈ fk ∨ q ∉ (p :: (f1 ++ (fk ++ f2))) := fun q hq => (h q hq).elim (hs q) .inl
  refine List.nodup_cons.mpr ⟨fun z => ?_, List.nodup_append.mpr ⟨a1, List.nodup_append.mpr ⟨nk, b2, fun x hx y hy e => ?_⟩, fun x hx y hy e => ?_⟩⟩
  · rcases List.mem_append.mp z with z | z
    · exact n0 (List.mem_append_left _ z)
    · rcases List.mem_append.mp z with z | z
      · rcases key p z with q | q
        · exact n0 (List.mem_append_right _ (List.mem_append_left _ q))
        · exact q List.mem_cons_self
      · exact n0 (List.mem_append_right _ (List.mem_append_right _ z))
  · subst e
    rcases key x hx with q | q
    · exact b3 x q x hy rfl
    · exact q (List.mem_cons_of_mem _ (List.mem_append_right _ (List.mem_append_right _ hy)))
  · subst e
    rcases List.mem_append.mp hy with hy | hy
    · rcases key x hy with q | q
      · exact a3 x hx x (List.mem_append_left _ q) rfl
      · exact q (List.mem_cons_of_mem _ (List.mem_append_left _ hx))
    · exact a3 x hx x (List.mem_append_right _ hy) rfl
def Focus (K : PySem.W.Frag) (B : Bx) (G H : Hp) (v : V) (o : OD) (f : List Addr) (π : List Nat) (s : OD) : Prop :=
  ∃ u fs, locV H v π = some u ∧ Own K B G H u s fs ∧ fs.Nodup ∧ (∀ p ∈ fs, p ∈ f) ∧
    ∀ {G2 H2 : Hp} {s' : OD} {fs' : List Addr}, Ex G G2 → (∀ p ∈ f, p ∉ fs → H2 p = H p ∧ G2 p = G p) → Own K B G2 H2 u s' fs' → fs'.Nodup → (∀ p ∈ fs', p ∈ fs ∨ p ∉ f) → ∃ f', Own K B G2 H2 v (setO o π s') f' ∧ f'.Nodup ∧ ∀ p ∈ f', p ∈ fs' ∨ p ∈ f
theorem focus : ∀ (π : List Nat) {v : V} {o s : OD} {f : List Addr}, Own K B G H v o f → f.Nodup → getO o π = some s → Focus K B G H v o f π s
  | [], v, o, s, f, h, nd, e => by
    have e : some o = some s := by cases o <;> exact e
    cases e
    exact ⟨v, f, (by cases v <;> rfl), h, nd, fun p hp => hp, fun {G2 H2 s' fs'} _ _ h2 n2 h3 => ⟨fs', (by have : setO o [] s' = s' := (by cases o <;> rfl); rw [this]; exact h2), n2, fun p hp => .inl hp⟩⟩
  | k :: π, _, .sh _, s, f, h, nd, e => nomatch e
  | k :: π, _, .lst xs, s, _, .lst (p := p) (vs := vs) (f := f) a1 a2 a3, nd, e => by
    have e : (match xs[k]? with | some x => getO x π | none => none) = some s := e
    cases hx : xs[k]? with
    | none => rw [hx] at e; cases e
    | some x =>
      rw [hx] at e
      obtain ⟨u, f1, fk, f2, b1, b2, b3, b4⟩ := a3.at hx
      subst b2
      have nk : fk.Nodup := (List.nodup_append.mp (List.nodup_append.mp (List.nodup_cons.mp nd).2).2.1).1
      obtain ⟨w, fs, c1, c2, c3, c4, c5⟩ := focus π b3 nk e
      refine ⟨w, fs, ?_, c2, c3, fun q hq => List.mem_cons_of_mem _ (List.mem_append_right _ (List.mem_append_left _ (c4 q hq))), fun {G2 H2 s' fs'} ex kp h2 n2 h3 => ?_⟩
      · show (match H p with | some (.lst vs) => _ | some (.dK vs) => _ | some (.dT vs) => _ | _ => none) = _
        rw [a1]
        show (match vs[k]? with | some u => locV H u π | none => none) = _
        rw [b1]
        exact c1
      · have dis : ∀ q, q ∈ fs → q ≠ p ∧ q ∉ f1 ∧ q ∉ f2 := fun q hq => by
          have hk := c4 q hq
          obtain ⟨n0, n1⟩ := List.nodup_cons.mp nd
          obtain ⟨_, m2, m3⟩ := List.nodup_append.mp n1
          obtain ⟨_, _, m4⟩ := List.nodup_append.mp m2
          exact ⟨fun z => n0 (by rw [← z]; exact List.mem_append_right _ (List.mem_append_left _ hk)), fun z => m3 q z q (List.mem_append_left _ hk) rfl, fun z => m4 q hk q z rfl⟩
        obtain ⟨fk', d1, d2, d3⟩ := c5 ex (fun q hq hn => kp q (List.mem_cons_of_mem _ (List.mem_append_right _ (List.mem_append_left _ hq))) hn) h2 n2 fun q hq => (h3 q hq).imp id fun z z2 => z (List.mem_cons_of_mem _ (List.mem_append_right _ (List.mem_append_left _ z2)))
        have k1 : Kept G H G2 H2 f1 := fun q hq => kp q (List.mem_cons_of_mem _ (List.mem_append_left _ hq)) fun z => (dis q z).2.1 hq
        have k2 : Kept G H G2 H2 f2 := fun q hq => kp q (List.mem_cons_of_mem _ (List.mem_append_right _ (List.mem_append_right _ hq))) fun z => (dis q z).2.2 hq
        have k0 := kp p List.mem_cons_self fun z => (dis p z).1 rfl
        have z := b4 ex k1 k2 d1
        rw [set_get b1] at z
        refine ⟨p :: (f1 ++ (fk' ++ f2)), ?_, nodup_mid nd d2 d3 fun q hq => (h3 q hq).imp (c4 q) id, fun q hq => ?_⟩
        · have es : setO (.lst xs) (k :: π) s' = .lst (xs.set k (setO x π s')) := by
            show (match xs[k]? with | some x => OD.lst (xs.set k (setO x π s')) | none => OD.lst xs) = _
            rw [hx]
          rw [es]
          exact .lst (k0.1.trans a1) (k0.2.trans a2) z
        · rcases List.mem_cons.mp hq with rfl | hq
          · exact .inr List.mem_cons_self
          · rcases List.mem_append.mp hq with hq | hq
            · exact .inr (List.mem_cons_of_mem _ (List.mem_append_left _ hq))
            · rcases List.mem_append.mp hq with hq | hq
              · exact (d3 q hq).imp id fun z => List.mem_cons_of_mem _ (List.mem_append_right _ (List.mem_append_left _ z))
              · exact .inr (List.mem_cons_of_mem _ (List.mem_append_right _ (List.mem_append_right _ hq)))
  | k :: π, _, .dic false xs, s, _, .dK (p := p) (kvs := vs) (f := f) a1 a2 a3, nd, e => by
    have e : (match xs[k]? with | some x => getO x.2 π | none => none) = some s := e
    cases hx : xs[k]? with
    | none => rw [hx] at e; cases e
    | some x =>
      obtain ⟨kd, x⟩ := x
      rw [hx] at e
      obtain ⟨key, u, f1, fk, f2, b1, b2, b3, _, b4⟩ := a3.at hx
      subst b2
      have nk : fk.Nodup := (List.nodup_append.mp (List.nodup_append.mp (List.nodup_cons.mp nd).2).2.1).1
      obtain ⟨w, fs, c1, c2, c3, c4, c5⟩ := focus π b3 nk e
      refine ⟨w, fs, ?_, c2, c3, fun q hq => List.mem_cons_of_mem _ (List.mem_append_right _ (List.mem_append_left _ (c4 q hq))), fun {G2 H2 s' fs'} ex kp h2 n2 h3 => ?_⟩
      · show (match H p with | some (.lst vs) => _ | some (.dK vs) => _ | some (.dT vs) => _ | _ => none) = _
        rw [a1]
        show (match vs[k]? with | some u => locV H u.2 π | none => none) = _
        rw [b1]
        exact c1
      · have dis : ∀ q, q ∈ fs → q ≠ p ∧ q ∉ f1 ∧ q ∉ f2 := fun q hq => by
          have hk := c4 q hq
          obtain ⟨n0, n1⟩ := List.nodup_cons.mp nd
          obtain ⟨_, m2, m3⟩ := List.nodup_append.mp n1
          obtain ⟨_, _, m4⟩ := List.nodup_append.mp m2
          exact ⟨fun z => n0 (by rw [← z]; exact List.mem_append_right _ (List.mem_append_left _ hk)), fun z => m3 q z q (List.mem_append_left _ hk) rfl, fun z => m4 q hk q z rfl⟩
        obtain ⟨fk', d1, d2, d3⟩ := c5 ex (fun q hq hn => kp q (List.mem_cons_of_mem _ (List.mem_append_right _ (List.mem_append_left _ hq))) hn) h2 n2 fun q hq => (h3 q hq).imp id fun z z2 => z (List.mem_cons_of_mem _ (List.mem_append_right _ (List.mem_append_left _ z2)))
        have k1 : Kept G H G2 H2 f1 := fun q hq => kp q (List.mem_cons_of_mem _ (List.mem_append_left _ hq)) fun z => (dis q z).2.1 hq
        have k2 : Kept G H G2 H2 f2 := fun q hq => kp q (List.mem_cons_of_mem _ (List.mem_append_right _ (List.mem_append_right _ hq))) fun z => (dis q z).2.2 hq
        have k0 := kp p List.mem_cons_self fun z => (dis p z).1 rfl
        have z := b4 ex k1 k2 d1
        rw [set_get b1] at z
        refine ⟨p :: (f1 ++ (fk' ++ f2)), ?_, nodup_mid nd d2 d3 fun q hq => (h3 q hq).imp (c4 q) id, fun q hq => ?_⟩
        · have es : setO (.dic false xs) (k :: π) s' = .dic false (xs.set k (kd, setO x π s')) := by
            show (match xs[k]? with | some x => OD.dic false (xs.set k (x.1, setO x.2 π s')) | none => OD.dic false xs) = _
            rw [hx]
          rw [es]
          exact .dK (k0.1.trans a1) (k0.2.trans a2) z
        · rcases List.mem_cons.mp hq with rfl | hq
          · exact .inr List.mem_cons_self
          · rcases List.mem_append.mp hq with hq | hq
            · exact .inr (List.mem_cons_of_mem _ (List.mem_append_left _ hq))
            · rcases List.mem_append.mp hq with hq | hq
              · exact (d3 q hq).imp id fun z => List.mem_cons_of_mem _ (List.mem_append_right _ (List.mem_append_left _ z))
              · exact .inr (List.mem_cons_of_mem _ (List.mem_append_right _ (List.mem_append_right _ hq)))
  | k :: π, _, .dic true xs, s, _, .dT (p := p) (kvs := vs) (f := f) a1 a2 a3, nd, e => by
    have e : (match xs[k]? with | some x => getO x.2 π | none => none) = some s := e
    cases hx : xs[k]? with
    | none => rw [hx] at e; cases e
    | some x =>
      obtain ⟨kd, x⟩ := x
      rw [hx] at e
      obtain ⟨key, u, f1, fk, f2, b1, b2, b3, _, b4⟩ := a3.at hx
      subst b2
      have nk : fk.Nodup := (List.nodup_append.mp (List.nodup_append.mp (List.nodup_cons.mp nd).2).2.1).1
      obtain ⟨w, fs, c1, c2, c3, c4, c5⟩ := focus π b3 nk e
      refine ⟨w, fs, ?_, c2, c3, fun q hq => List.mem_cons_of_mem _ (List.mem_append_right _ (List.mem_append_left _ (c4 q hq))), fun {G2 H2 s' fs'} ex kp h2 n2 h3 => ?_⟩
      · show (match H p with | some (.lst vs) => _ | some (.dK vs) => _ | some (.dT vs) => _ | _ => none) = _
        rw [a1]
        show (match vs[k]? with | some u => locV H u.2 π | none => none) = _
        rw [b1]
        exact c1
      · have dis : ∀ q, q ∈ fs → q ≠ p ∧ q ∉ f1 ∧ q ∉ f2 := fun q hq => by
          have hk := c4 q hq
          obtain ⟨n0, n1⟩ := List.nodup_cons.mp nd
          obtain ⟨_, m2, m3⟩ := List.nodup_append.mp n1
          obtain ⟨_, _, m4⟩ := List.nodup_append.mp m2
          exact ⟨fun z => n0 (by rw [← z]; exact List.mem_append_right _ (List.mem_append_left _ hk)), fun z => m3 q z q (List.mem_append_left _ hk) rfl, fun z => m4 q hk q z rfl⟩
        obtain ⟨fk', d1, d2, d3⟩ := c5 ex (fun q hq hn => kp q (List.mem_cons_of_mem _ (List.mem_append_right _ (List.mem_append_left _ hq))) hn) h2 n2 fun q hq => (h3 q hq).imp id fun z z2 => z (List.mem_cons_of_mem _ (List.mem_append_right _ (List.mem_append_left _ z2)))
        have k1 : Kept G H G2 H2 f1 := fun q hq => kp q (List.mem_cons_of_mem _ (List.mem_append_left _ hq)) fun z => (dis q z).2.1 hq
        have k2 : Kept G H G2 H2 f2 := fun q hq => kp q (List.mem_cons_of_mem _ (List.mem_append_right _ (List.mem_append_right _ hq))) fun z => (dis q z).2.2 hq
        have k0 := kp p List.mem_cons_self fun z => (dis p z).1 rfl
        have z := b4 ex k1 k2 d1
        rw [set_get b1] at z
        refine ⟨p :: (f1 ++ (fk' ++ f2)), ?_, nodup_mid nd d2 d3 fun q hq => (h3 q hq).imp (c4 q) id, fun q hq => ?_⟩
        · have es : setO (.dic true xs) (k :: π) s' = .dic true (xs.set k (kd, setO x π s')) := by
            show (match xs[k]? with | some x => OD.dic true (xs.set k (x.1, setO x.2 π s')) | none => OD.dic true xs) = _
            rw [hx]
          rw [es]
          exact .dT (k0.1.trans a1) (k0.2.trans a2) z
        · rcases List.mem_cons.mp hq with rfl | hq
          · exact .inr List.mem_cons_self
          · rcases List.mem_append.mp hq with hq | hq
            · exact .inr (List.mem_cons_of_mem _ (List.mem_append_left _ hq))
            · rcases List.mem_append.mp hq with hq | hq
              · exact (d3 q hq).imp id fun z => List.mem_cons_of_mem _ (List.mem_append_right _ (List.mem_append_left _ z))
              · exact .inr (List.mem_cons_of_mem _ (List.mem_append_right _ (List.mem_append_right _ hq)))
end
end DL
namespace DL
open PySem PySem.Spec PyProof.Rows L2 Evl
abbrev DR := DS → (Nat → List Nat → Prop) → Prop
def liftR (K : PySem.W.Frag) (B : Bx) (ρ : DR) : TE := fun σ H P => ∃ (H0 G : Hp) (δ : DS) (Q : Nat → List Nat → Prop), Jn K B G H ∧ StOk K B H0 G H σ δ ∧ ρ δ Q ∧ ∀ i π v0 v G2 H2, Q i π → Gr K B G H G2 H2 → σ[i]? = some (some v0) → locV H2 v0 π = some v → P v H2
abbrev PR (X : Cx) (B : Bx) (e : Expr) (ρ : DR) : Prop := PE X e (liftR X.K B ρ)
def getS (δ : DS) (i : Nat) (π : List Nat) : Option OD := match δ[i]? with
  | some (some (.ow _ o)) => getO o π
  | _ => none
def putS (δ : DS) (i : Nat) (π : List Nat) (s : OD) : DS := match δ[i]? with
  | some (some (.ow v o)) => δ.set i (some (.ow v (setO o π s)))
  | _ => δ
theorem getS_at {δ : DS} {i : Nat} {π : List Nat} {s : OD} (h : getS δ i π = some s) : ∃ v o, δ[i]? = some (some (.ow v o)) ∧ getO o π = some s := by
  unfold getS at h
  split at h
  · exact ⟨_, _, by assumption, h⟩
  · cases h
theorem putS_at {δ : DS} {i : Nat} {π : List Nat} {v : V} {o : OD} (h : δ[i]? = some (some (.ow v o))) (s : OD) : putS δ i π s = δ.set i (some (.ow v (setO o π s))) := by
  unfold putS
  rw [h]
def lstAt (δ : DS) (i : Nat) (π : List Nat) (K : List OD → Prop) : Prop := match getS δ i π with
  | some (.lst xs) => K xs
  | _ => False
theorem lstAt_at {δ : DS} {i : Nat} {π : List Nat} {K : List OD → Prop} (h : lstAt δ i π K) : ∃ xs, getS δ i π = some (.lst xs) ∧ K xs := by
  unfold lstAt at h
  split at h
  · exact ⟨_, by assumption, h⟩
  · exact h.elim
section
variable {K : PySem.W.Frag} {B : Bx} {G H H0 : Hp} {σ : L2.St} {δ : DS}
theorem loc_keep {H2 : Hp} : ∀ (π : List Nat) {v : V} {o s : OD} {f : List Addr}, Own K B G H v o f → getO o π = some s → (∀ p ∈ f, H2 p = H p) → locV H2 v π = locV H v π
  | [], v, _, _, _, _, _, _ => by cases v <;> rfl
  | k :: π, _, .sh _, s, f, h, e, _ => nomatch e
  | k :: π, _, .lst xs, s, _, .lst (p := p) (vs := vs) (f := f) a1 a2 a3, e, hk => by
    have e : (match xs[k]? with | some x => getO x π | none => none) = some s := e
    cases hx : xs[k]? with
    | none => rw [hx] at e; cases e
    | some x =>
      rw [hx] at e
      obtain ⟨u, f1, fk, f2, b1, b2, b3, _⟩ := a3.at hx
      subst b2
      have ih := loc_keep π b3 e fun q hq => hk q (List.mem_cons_of_mem _ (List.mem_append_right _ (List.mem_append_left _ hq)))
      show (match H2 p with | some (.lst vs) => (match vs[k]? with | some u => locV H2 u π | none => none) | some (.dK vs) => _ | some (.dT vs) => _ | _ => none) = (match H p with | some (.lst vs) => (match vs[k]? with | some u => locV H u π | none => none) | some (.dK vs) => _ | some (.dT vs) => _ | _ => none)
      rw [hk p List.mem_cons_self, a1]
      show (match vs[k]? with | some u => locV H2 u π | none => none) = (match vs[k]? with | some u => locV H u π | none => none)
      rw [b1]
      exact ih
  | k :: π, _, .dic false xs, s, _, .dK (p := p) (kvs := vs) (f := f) a1 a2 a3, e, hk => by
    have e : (match xs[k]? with | some x => getO x.2 π | none => none) = some s := e
    cases hx : xs[k]? with
    | none => rw [hx] at e; cases e
    | some x =>
      obtain ⟨kd, x⟩ := x
      rw [hx] at e
      obtain ⟨key, u, f1, fk, f2, b1, b2, b3, _⟩ := a3.at hx
      subst b2
      have ih := loc_keep π b3 e fun q hq => hk q (List.mem_cons_of_mem _ (List.mem_append_right _ (List.mem_append_left _ hq)))
      show (match H2 p with | some (.lst vs) => _ | some (.dK vs) => (match vs[k]? with | some u => locV H2 u.2 π | none => none) | some (.dT vs) => _ | _ => none) = (match H p with | some (.lst vs) => _ | some (.dK vs) => (match vs[k]? with | some u => locV H u.2 π | none => none) | some (.dT vs) => _ | _ => none)
      rw [hk p List.mem_cons_self, a1]
      show (match vs[k]? with | some u => locV H2 u.2 π | none => none) = (match vs[k]? with | some u => locV H u.2 π | none => none)
      rw [b1]
      exact ih
  | k :: π, _, .dic true xs, s, _, .dT (p := p) (kvs := vs) (f := f) a1 a2 a3, e, hk => by
    have e : (match xs[k]? with | some x => getO x.2 π | none => none) = some s := e
    cases hx : xs[k]? with
    | none => rw [hx] at e; cases e
    | some x =>
      obtain ⟨kd, x⟩ := x
      rw [hx] at e
      obtain ⟨key, u, f1, fk, f2, b1, b2, b3, _⟩ := a3.at hx
      subst b2
      have ih := loc_keep π b3 e fun q hq => hk q (List.mem_cons_of_mem _ (List.mem_append_right _ (List.mem_append_left _ hq)))
      show (match H2 p with | some (.lst vs) => _ | some (.dK vs) => _ | some (.dT vs) => (match vs[k]? with | some u => locV H2 u.2 π | none => none) | _ => none) = (match H p with | some (.lst vs) => _ | some (.dK vs) => _ | some (.dT vs) => (match vs[k]? with | some u => locV H u.2 π | none => none) | _ => none)
      rw [hk p List.mem_cons_self, a1]
      show (match vs[k]? with | some u => locV H2 u.2 π | none => none) = (match vs[k]? with | some u => locV H u.2 π | none => none)
      rw [b1]
      exact ih
/-- the place that was told, later: it is where it was, and what stands there may be changed -/
theorem StOk.place {i : Nat} {π : List Nat} {v0 v : V} {s : OD} {G2 H2 : Hp} (st : StOk K B H0 G H σ δ) (hs : getS δ i π = some s) (h0 : σ[i]? = some (some v0)) (hv : locV H v0 π = some v) (g : Gr K B G H G2 H2) :
    ∃ fs, Own K B G2 H2 v s fs ∧ fs.Nodup ∧ (∀ p ∈ fs, H0 p = none ∧ B.nb p) ∧ locV H2 v0 π = some v ∧
      ∀ p ho s' fs', p ∈ fs → Own K B G2 (upd H2 p ho) v s' fs' → fs'.Nodup → (∀ q ∈ fs', q ∈ fs) → StOk K B H0 G2 (upd H2 p ho) σ (putS δ i π s') := by
  obtain ⟨w, o, h1, h2⟩ := getS_at hs
  obtain ⟨F, y⟩ := st.ex
  obtain ⟨e1, e2, e3, e4⟩ := y.ow h1
  rw [h0] at e1
  cases e1
  have y2 := y.gr g
  obtain ⟨e1, c2, _, _⟩ := y2.ow h1
  obtain ⟨u, fs, a1, a2, a3, a4, a5⟩ := focus π c2 e3 h2
  have kp : ∀ p ∈ F i, H2 p = H p := fun p hp => by
    have n := e2.node p hp
    cases q : H p with
    | none => exact absurd q n.at.ne
    | some ob => exact g.keep p ob (e4 p hp).2 q
  have hl := loc_keep (H2 := H2) π e2 h2 kp
  rw [hl, hv] at a1
  cases a1
  refine ⟨fs, a2, a3, fun p hp => e4 p (a4 p hp), hl.trans hv, fun p ho s' fs' hp hw nd hf => ?_⟩
  obtain ⟨f', d1, d2, d3⟩ := a5 (Ex.refl G2) (fun q hq hn => ⟨upd_ne fun z => hn (z ▸ hp), rfl⟩) hw nd fun q hq => .inl (hf q hq)
  rw [putS_at h1]
  have all : ∀ q ∈ f', q ∈ F i := fun q hq => (d3 q hq).elim (fun z => a4 q (hf q z)) id
  have z := y2.put (i := i) (List.getElem?_eq_some_iff.mp e1).1 (Ex.refl G2) (H2 := upd H2 p ho) (fun q _ _ hq => ⟨upd_ne fun e => hq (e ▸ a4 p hp), rfl⟩) (.ow d1 d2 fun q hq => e4 q (all q hq)) fun q hq => .inr (all q hq)
  rw [set_same e1] at z
  exact ⟨_, z⟩
end
section
variable {X : Cx} {B : Bx} {e o i : Expr} {r ri : DE} {ρ : DR} {pos : Pos}
def rVar (i : Nat) : DR := fun δ Q => ownO δ[i]? fun _ _ => Q i []
theorem pr_var {k : Nat} (h : PE X e (tVar k)) : PR X B e (rVar k) := pe_mono h fun σ H P q => by
  obtain ⟨H0, G, δ, Q, j, st, hr, kk⟩ := q
  have hr : ownO δ[k]? fun _ _ => Q k [] := hr
  unfold ownO at hr
  split at hr
  · rename_i v o h1
    obtain ⟨F, y⟩ := st.ex
    have e1 := (y.ow h1).1
    exact ⟨v, e1, kk k [] v v G H hr (Gr.refl j) e1 (by cases v <;> rfl)⟩
  · exact hr.elim
/-- x.append(e), at a place -/
def dAppR (ρ : DR) (r : DE) : DTS := fun W δ => ρ δ fun i π => lstAt δ i π fun xs => r δ fun d => xs.length < sizeLine ∧ W.nx (putS δ i π (.lst (xs ++ [.sh d])))
theorem psd_appR {apos cpos : Pos} (ho : PR X B o ρ) (he : PD X B e r)
    (hbase : attributeBase o "append" X.env (eval o X.env) = eval o X.env := by rfl)
    (hfew : ((backTo cpos (starEach [e] X.env)).all (fun x => !x.1) && (backToKw cpos (keywordEach [] X.env)).all (fun x => x.1.isSome) && decide ([e].length + ([] : List Keyword).length + (if ([] : List Keyword).isEmpty then 0 else 1) < 30)) = true := by rfl)
    (hline : (apos.endLine == cpos.line) = true := by rfl) (hs : starEach [e] X.env = (false, eval e X.env) :: starEach [] X.env := by rfl) (hplain : (backTo cpos (starEach [] X.env)).any (·.1) = false := by rfl)
    (hsw : swapsWith (.Call (.Attribute o "append" apos) [e] [] cpos) none pos.line X.env = pure false := by rfl) :
    PSD X B (.Expr (.Call (.Attribute o "append" apos) [e] [] cpos) pos) (dAppR ρ r) := ps_mono (ps_expr (pe_bm PySem.F.plainAttrs_list PySem.F.slot_list_append PySem.F.type_list_append mt_append ho (pa_cons he pa_nil hs) hbase hfew hline hs hplain) hsw) fun E σ H q => by
  obtain ⟨G0, H0, G, δ, W, g0, st, h, k⟩ := q
  refine ⟨H0, G, δ, _, g0.j, st, h, fun i π v0 v G2 H2 q2 g2 h0 hv => ?_⟩
  obtain ⟨xs, hx, q2⟩ := lstAt_at q2
  obtain ⟨_, a1, _⟩ := (st.gr g2).place hx h0 hv (Gr.refl g2.j)
  cases a1 with
  | @lst p vs _ f b1 b2 b3 =>
    refine ⟨.inl ⟨rfl, vs, sq_of b1⟩, H0, G2, δ, _, g2.j, st.gr g2, q2, fun d u G3 H3 q3 g3 h3 => ?_⟩
    obtain ⟨fs, c1, c2, c3, _, c5⟩ := (st.gr g2).place hx h0 hv g3
    cases c1 with
    | @lst _ vs' _ f' d1 d2 d3 =>
      refine ⟨p, vs', u, rfl, rfl, d1, by rw [d3.len]; exact q3.1, ?_⟩
      have hp := c3 p List.mem_cons_self
      have np := (List.nodup_cons.mp c2).1
      refine k.nx _ _ _ _ q3.2 (((g0.trans g2).trans g3).own hp.1 d2 hp.2) (g2.ex.trans g3.ex) (c5 p _ _ (p :: f') List.mem_cons_self (.lst upd_same d2 ?_) c2 fun q hq => hq)
      have c4 := (d3.past (ho := .lst (vs' ++ [u])) np).append (Owns.cons (H := upd H3 p (.lst (vs' ++ [u]))) (.sh h3) .nil)
      rw [List.append_nil, List.append_nil] at c4
      exact c4
end
end DL
namespace DL
open PySem PySem.Spec PyProof.Rows L2 Evl
section
variable {X : Cx} {B : Bx} {e o a b c : Expr} {es : List Expr} {r ra rb : DE} {pos : Pos} {C k k' i : Nat} {S : FO} {rA : DA} {rao : OA} {m : Str} {g : Addr}
theorem pf_new {K : PySem.W.Frag} {G H G2 H2 : Hp} {p : Addr} {vs : List V} {ds : List D} {P : VK} {Q : List D → Prop} (k : ∀ ds p vs G2 H2, Q ds → Gr K B G H G2 H2 → H p = none → G2 p = none → H2 p = some (.lst vs) → Dats K B G2 vs ds → P (.ref p) H2) (g : Gr K B G H G2 H2) (hp : H2 p = none) (hd : Dats K B G2 vs ds) (q : Q ds) : P (.ref p) (upd H2 p (.lst vs)) :=
  k ds p vs G2 _ q (g.trans (Gr.new0 g.j hp)) (g.free hp) (fresh_back g.j.ex hp) upd_same hd
end
end DL
namespace DL
open PySem PySem.Spec PyProof.Rows L2 Evl
def dk1 : D → Option Key
  | .int i => some (.inl i)
  | .str x => some (.inr x)
  | _ => none
def dkL : List D → Option (List Key)
  | [] => some []
  | d :: ds => match dk1 d, dkL ds with
    | some k, some ks => some (k :: ks)
    | _, _ => none
def dkT : D → Option (List Key)
  | .tup ds => dkL ds
  | _ => none
theorem dk1_emb (k : Key) : dk1 (embK k) = some k := by cases k <;> rfl
theorem dkL_emb : ∀ k : List Key, dkL (k.map embK) = some k
  | [] => rfl
  | a :: k => by rw [List.map_cons, dkL, dk1_emb, dkL_emb k]
theorem dkT_emb (k : List Key) : dkT (embT k) = some k := dkL_emb k
/-- two keys are one -/
def keqD (x y : D) : Bool := match dk1 x, dk1 y with
  | some a, some b => decide (a = b)
  | _, _ => match dkT x, dkT y with
    | some a, some b => decide (a = b)
    | _, _ => false
theorem keqD_K (a b : Key) : keqD (embK a) (embK b) = decide (a = b) := by unfold keqD; rw [dk1_emb, dk1_emb]
theorem keqD_T (a b : List Key) : keqD (embT a) (embT b) = decide (a = b) := by
  unfold keqD
  have h1 : dk1 (embT a) = none := rfl
  rw [h1, dkT_emb, dkT_emb]
def lookK {α : Type} (ks : List (D × α)) (y : D) : Option α := (ks.find? fun kv => keqD kv.1 y).map (·.2)
section
variable {K : PySem.W.Frag} {B : Bx} {G H : Hp}
theorem OwnK.any {k : Key} : ∀ {vs : List (Key × V)} {xs : List (D × OD)} {f : List Addr}, OwnK K B G H vs xs f → (vs.any fun kv => decide (kv.1 = k)) = xs.any fun z => keqD z.1 (embK k)
  | _, _, _, .nil => rfl
  | _, _, _, .consI (i := i) _ t => by rw [List.any_cons, List.any_cons, OwnK.any t, show (D.int i) = embK (.inl i) from rfl, keqD_K]
  | _, _, _, .consS (x := i) _ t => by rw [List.any_cons, List.any_cons, OwnK.any t, show (D.str i) = embK (.inr i) from rfl, keqD_K]
theorem OwnT.any {k : List Key} : ∀ {vs : List (List Key × V)} {xs : List (D × OD)} {f : List Addr}, OwnT K B G H vs xs f → (vs.any fun kv => decide (kv.1 = k)) = xs.any fun z => keqD z.1 (embT k)
  | _, _, _, .nil => rfl
  | _, _, _, .cons (k := i) _ t => by rw [List.any_cons, List.any_cons, OwnT.any t]; exact congrArg (· || _) (keqD_T i k).symm
theorem OwnK.len : ∀ {vs : List (Key × V)} {xs : List (D × OD)} {f : List Addr}, OwnK K B G H vs xs f → vs.length = xs.length
  | _, _, _, .nil => rfl
  | _, _, _, .consI _ t => by rw [List.length_cons, List.length_cons, OwnK.len t]
  | _, _, _, .consS _ t => by rw [List.length_cons, List.length_cons, OwnK.len t]
theorem OwnT.len : ∀ {vs : List (List Key × V)} {xs : List (D × OD)} {f : List Addr}, OwnT K B G H vs xs f → vs.length = xs.length
  | _, _, _, .nil => rfl
  | _, _, _, .cons _ t => by rw [List.length_cons, List.length_cons, OwnT.len t]
end
end DL
namespace DL
open PySem PySem.Spec PyProof.Rows L2 Evl
section
variable {δ : DS} {Q : D → Prop} {QO : OD → Prop} {QL : List D → Prop} {QOL : List OD → Prop} {QB : Bool → Prop} {QR : Nat → List Nat → Prop} {W : DEnds} {r ra rb ri : DE} {rA : DA} {ro rx ry rz : OE} {rao : OA} {S : FO} {ρ : DR} {i j l n C : Nat} {d : D} {ds xs ys : List D} {os : List OD} {o s : OD} {a b : Int} {π : List Nat} {v : V} {oo : Option SD} {ks : List Str} {t : Bool} {kvs : List (D × OD)}
theorem z_oF : oF rA δ QO = rA δ fun ds => QO (.lst (ds.map .sh)) := propext Iff.rfl
theorem z_setT : dSetT i ro W δ = ro δ fun o => ∀ v, W.nx (δ.set i (some (.ow v o))) := propext Iff.rfl
theorem z_rVar : rVar i δ QR = ownO δ[i]? fun _ _ => QR i [] := propext Iff.rfl
theorem z_appR : dAppR ρ r W δ = ρ δ fun i π => lstAt δ i π fun xs => r δ fun d => xs.length < sizeLine ∧ W.nx (putS δ i π (.lst (xs ++ [.sh d]))) := propext Iff.rfl
theorem z_oI : oI (fun a b => .int (a + b)) (.int a) (.int b) Q = Q (.int (a + b)) := propext Iff.rfl
theorem z_lstA0 {K : List OD → Prop} : lstAt (some (.ow v (.lst os)) :: δ) 0 [] K = K os := propext Iff.rfl
theorem z_lstAS {K : List OD → Prop} : lstAt (oo :: δ) (i + 1) π K = lstAt δ i π K := by unfold lstAt getS; rw [List.getElem?_cons_succ]
theorem z_putS0 : putS (some (.ow v o) :: δ) 0 π s = some (.ow v (setO o π s)) :: δ := rfl
theorem z_putSS : putS (oo :: δ) (i + 1) π s = oo :: putS δ i π s := by
  unfold putS
  rw [List.getElem?_cons_succ]
  split
  · rename_i h
    simp only [h, List.set_cons_succ]
  · rfl
theorem z_setO0 : setO o [] s = s := by cases o <;> rfl
theorem z_lstA1 {K : List OD → Prop} {os2 : List OD} {x : OD} : lstAt (some (.ow v (.lst (.lst os :: os2))) :: δ) 0 [0] K = K os := propext Iff.rfl
theorem z_lstA2 {K : List OD → Prop} {os2 : List OD} {x : OD} : lstAt (some (.ow v (.lst (x :: .lst os :: os2))) :: δ) 0 [1] K = K os := propext Iff.rfl
theorem z_setO1 {os2 : List OD} {x : OD} : setO (.lst (x :: os2)) [0] s = .lst (s :: os2) := by
  show OD.lst ((x :: os2).set 0 (setO x [] s)) = _
  rw [z_setO0]; rfl
theorem z_setO2 {os2 : List OD} {x y : OD} : setO (.lst (x :: y :: os2)) [1] s = .lst (x :: s :: os2) := by
  show OD.lst ((x :: y :: os2).set 1 (setO y [] s)) = _
  rw [z_setO0]; rfl
theorem z_toDs : OD.toD (.sh d) = d := by rw [OD.toD]
theorem z_toDl : OD.toD (.lst os) = .lst (toDs os) := by rw [OD.toD]
theorem z_toDd : OD.toD (.dic t kvs) = .dic (toDk kvs) := by rw [OD.toD]
end
end DL
namespace DL
open PySem PySem.Spec PyProof.Rows L2 Evl
end DL
namespace DL
open PySem PySem.Spec PyProof.Rows L2 Evl
end DL
namespace DL
open PySem PySem.Spec PyProof.Rows L2 Evl
section
variable {K : PySem.W.Frag} {B : Bx} {H0 G H : Hp} {σ : L2.St} {δ : DS} {p : Addr} {o : HO}
theorem StOk.past (x : StOk K B H0 G H σ δ) (hp : H0 p ≠ none) : StOk K B H0 G (upd H p o) σ δ := by
  obtain ⟨F, y⟩ := x.ex
  refine ⟨F, y.len, fun i ov od h1 h2 => ?_, y.dj⟩
  have q := y.at_ i ov od h1 h2
  exact q.keep (Ex.refl G) fun b hb => ⟨upd_ne fun z => hp (by rw [← z]; exact (q.at b hb).2.2.2), rfl⟩
end
end DL
namespace DL
open PySem PySem.Spec PyProof.Rows L2 Evl
theorem room_u65 {k : Nat} {A : Around} (h : Room k A) : A.units + 65 < cLine := by have := h.un; omega
theorem pyL_map : ∀ xs : List D, pyL xs = xs.map D.py
  | [] => by rw [pyL]; rfl
  | x :: xs => by rw [pyL, pyL_map xs]; rfl
def mIndexP : OM := fun x ds Q => match x, ds with
  | .lst xs, [d] => (plain (.lst xs) = true ∧ plain d = true) ∧ ∃ (j : Nat) (z : D), xs[j]? = some z ∧ eqb z d = true ∧ (∀ (m : Nat) (z' : D), m < j → xs[m]? = some z' → eqb z' d = false) ∧ Q (.int (j : Nat))
  | _, _ => False
theorem mt_indexP {X : Cx} {B : Bx} (hu : X.A.units + 65 < cLine) : MtR X "list.index" (mLift X.K B mIndexP) := by
  intro pins s σ H x xs v us P I rx rs q
  obtain ⟨G, d, ds, Q, j, hx, hd, hq, k⟩ := q
  cases hd with
  | nil => cases hx <;> exact hq.elim
  | @cons v1 vs1 d1 ds1 h1 h2 =>
    cases h2 with
    | cons _ _ => cases hx <;> exact hq.elim
    | nil =>
      cases hx with
      | @lst a ys es hp t =>
        obtain ⟨⟨p1, p2⟩, n, z, c1, c2, c3, q⟩ := hq
        have e1 := dat_dp (d := .lst es) j.ex (.lst hp t) (Bool.and_eq_true_iff.mp p1).1
        have e2 := plain_shaped p1
        rw [D.py] at e1 e2
        refine mt_indexD hu pins s σ H _ _ v us P I rx rs ⟨a, v1, d1.py, pyL es, n, z.py, rfl, rfl, e1, dat_dp j.ex h1 (Bool.and_eq_true_iff.mp p2).1, e2, plain_shaped p2, ?_, c2, fun m z' hm hz => ?_, k _ _ G H q (Gr.refl j) (.int _)⟩
        · rw [pyL_map, List.getElem?_map, c1]; rfl
        · rw [pyL_map, List.getElem?_map] at hz
          obtain ⟨w, hw, e⟩ := Option.map_eq_some_iff.mp hz
          subst e
          exact c3 m w hm hw
      | _ => exact hq.elim
section
variable {Q : D → Prop} {x d : D} {xs ys : List D}
theorem z_mIndexP : mIndexP (.lst xs) [d] Q = ((plain (.lst xs) = true ∧ plain d = true) ∧ ∃ (j : Nat) (z : D), xs[j]? = some z ∧ eqb z d = true ∧ (∀ (m : Nat) (z' : D), m < j → xs[m]? = some z' → eqb z' d = false) ∧ Q (.int (j : Nat))) := propext Iff.rfl
end
end DL
namespace DL
open PySem PySem.Spec PyProof.Rows L2 Evl
end DL
namespace DL
open PySem PySem.Spec PyProof.Rows L2 Evl
def oPow : O2 := oIc CPow fun i j => .int (i ^ j.toNat)
theorem op_pow_d {X : Cx} {B : Bx} : OpR X (binaryOp .Pow) (rLift X.K B oPow) := op_intc op_pow fun _ _ _ => .int _
theorem z_pow {a b : Int} {Q : D → Prop} : oPow (.int a) (.int b) Q = (CPow a b ∧ Q (.int (a ^ b.toNat))) := propext Iff.rfl
end DL
namespace DL
open PySem PySem.Spec PyProof.Rows L2 Evl
theorem zGd0 : (type_of% @z_pow) ∧ (type_of% @z_var0) ∧ (type_of% @z_varS) ∧ (type_of% @z_c) ∧ (type_of% @z_nil) ∧ (type_of% @z_cons) ∧ (type_of% @z_tup) ∧ (type_of% @z_lst) ∧ (type_of% @z_sz) ∧ (type_of% @z_f) ∧ (type_of% @z_op) ∧ (type_of% @z_un) ∧ (type_of% @z_tBl) ∧ (type_of% @z_bl) ∧ (type_of% @z_tNt) ∧ (type_of% @z_notT) ∧ (type_of% @z_notF) ∧ (type_of% @z_dNt) ∧ (type_of% @z_call) ∧ (type_of% @z_next) ∧ (type_of% @z_seqS) ∧ (type_of% @z_ret) ∧ (type_of% @z_retN) ∧ (type_of% @z_drop) ∧ (type_of% @z_brk) ∧ (type_of% @z_cnt) ∧ (type_of% @z_gN) ∧ (type_of% @z_gsNil) ∧ (type_of% @z_gsCons) ∧ (type_of% @z_headL) ∧ (type_of% @z_nilL) ∧ (type_of% @z_gT) ∧ (type_of% @z_gL) ∧ (type_of% @z_tupD) ∧ (type_of% @z_lstD) ∧ (type_of% @z_asg) ∧ (type_of% @z_set) ∧ (type_of% @z_frz) := ⟨@z_pow, @z_var0, @z_varS, @z_c, @z_nil, @z_cons, @z_tup, @z_lst, @z_sz, @z_f, @z_op, @z_un, @z_tBl, @z_bl, @z_tNt, @z_notT, @z_notF, @z_dNt, @z_call, @z_next, @z_seqS, @z_ret, @z_retN, @z_drop, @z_brk, @z_cnt, @z_gN, @z_gsNil, @z_gsCons, @z_headL, @z_nilL, @z_gT, @z_gL, @z_tupD, @z_lstD, @z_asg, @z_set, @z_frz⟩
theorem zGd1 : (type_of% @z_for) ∧ (type_of% @z_lc) ∧ (type_of% @z_yes) ∧ (type_of% @z_sl) ∧ (type_of% @z_noP) ∧ (type_of% @z_aP) ∧ (type_of% @z_intO) ∧ (type_of% @z_ifS) ∧ (type_of% @iteS_t) ∧ (type_of% @iteS_f) ∧ (type_of% @z_ifE) ∧ (type_of% @iteE_t) ∧ (type_of% @iteE_f) ∧ (type_of% @z_an) ∧ (type_of% @z_or) ∧ (type_of% @anE_t) ∧ (type_of% @anE_f) ∧ (type_of% @orE_t) ∧ (type_of% @orE_f) ∧ (type_of% @z_tan) ∧ (type_of% @z_tor) ∧ (type_of% @anT_t) ∧ (type_of% @anT_f) ∧ (type_of% @orT_t) ∧ (type_of% @orT_f) ∧ (type_of% @z_seq) ∧ (type_of% @z_seqL) ∧ (type_of% @z_seqT) ∧ (type_of% @z_seqSt) ∧ (type_of% @z_star) ∧ (type_of% @z_starT) ∧ (type_of% @z_starL) ∧ (type_of% @z_neg) ∧ (type_of% @z_sub) ∧ (type_of% @z_mod) ∧ (type_of% @z_div) ∧ (type_of% @z_lt) ∧ (type_of% @z_le) ∧ (type_of% @z_gt) ∧ (type_of% @z_ge) ∧ (type_of% @z_addI) ∧ (type_of% @z_addS) ∧ (type_of% @z_addL) ∧ (type_of% @z_addT) ∧ (type_of% @z_mulI) ∧ (type_of% @z_mulS) ∧ (type_of% @z_mulL) ∧ (type_of% @z_atD) ∧ (type_of% @z_atC) ∧ (type_of% @z_ixS) ∧ (type_of% @z_ixL0) ∧ (type_of% @z_ixL1) ∧ (type_of% @z_ixL2) ∧ (type_of% @z_ixL3) ∧ (type_of% @z_ixL4) ∧ (type_of% @z_ixL5) ∧ (type_of% @z_ixL6) := ⟨@z_for, @z_lc, @z_yes, @z_sl, @z_noP, @z_aP, @z_intO, @z_ifS, @iteS_t, @iteS_f, @z_ifE, @iteE_t, @iteE_f, @z_an, @z_or, @anE_t, @anE_f, @orE_t, @orE_f, @z_tan, @z_tor, @anT_t, @anT_f, @orT_t, @orT_f, @z_seq, @z_seqL, @z_seqT, @z_seqSt, @z_star, @z_starT, @z_starL, @z_neg, @z_sub, @z_mod, @z_div, @z_lt, @z_le, @z_gt, @z_ge, @z_addI, @z_addS, @z_addL, @z_addT, @z_mulI, @z_mulS, @z_mulL, @z_atD, @z_atC, @z_ixS, @z_ixL0, @z_ixL1, @z_ixL2, @z_ixL3, @z_ixL4, @z_ixL5, @z_ixL6⟩
theorem zGd2 : (type_of% @z_ixL7) ∧ (type_of% @z_ixT0) ∧ (type_of% @z_ixT1) ∧ (type_of% @z_ixT2) ∧ (type_of% @z_ixT3) ∧ (type_of% @z_ixT4) ∧ (type_of% @z_ixT5) ∧ (type_of% @z_ixT6) ∧ (type_of% @z_ixT7) ∧ (type_of% @z_eqS) ∧ (type_of% @z_eqI) ∧ (type_of% @z_eqB) ∧ (type_of% @z_eqL) ∧ (type_of% @z_eqT) ∧ (type_of% @z_neS) ∧ (type_of% @z_neI) ∧ (type_of% @z_neB) ∧ (type_of% @z_neL) ∧ (type_of% @z_neT) ∧ (type_of% @z_inL) ∧ (type_of% @z_inT) ∧ (type_of% @z_ninL) ∧ (type_of% @z_ninT) ∧ (type_of% @z_slL) ∧ (type_of% @z_slT) ∧ (type_of% @z_slS) ∧ (type_of% @z_lenL) ∧ (type_of% @z_lenT) ∧ (type_of% @z_lenS) ∧ (type_of% @z_intI) ∧ (type_of% @z_intB) ∧ (type_of% @z_abs) ∧ (type_of% @z_max) ∧ (type_of% @z_tupL) ∧ (type_of% @z_tupT) ∧ (type_of% @z_par) ∧ (type_of% @z_r1) ∧ (type_of% @z_r1D) ∧ (type_of% @z_r2) ∧ (type_of% @z_r2D) ∧ (type_of% @z_fld) ∧ (type_of% @z_fldD) ∧ (type_of% @z_prop) ∧ (type_of% @z_isO) ∧ (type_of% @z_meth) ∧ (type_of% @z_callO) ∧ (type_of% @z_make) ∧ (type_of% @z_own2) ∧ (type_of% @z_own1) ∧ (type_of% @z_ownNe) ∧ (type_of% @z_isi) ∧ (type_of% @z_isiN) ∧ (type_of% @z_isiB) ∧ (type_of% @z_isiI) ∧ (type_of% @z_isiS) ∧ (type_of% @z_isiL) ∧ (type_of% @z_isiT) ∧ (type_of% @z_isiD) := ⟨@z_ixL7, @z_ixT0, @z_ixT1, @z_ixT2, @z_ixT3, @z_ixT4, @z_ixT5, @z_ixT6, @z_ixT7, @z_eqS, @z_eqI, @z_eqB, @z_eqL, @z_eqT, @z_neS, @z_neI, @z_neB, @z_neL, @z_neT, @z_inL, @z_inT, @z_ninL, @z_ninT, @z_slL, @z_slT, @z_slS, @z_lenL, @z_lenT, @z_lenS, @z_intI, @z_intB, @z_abs, @z_max, @z_tupL, @z_tupT, @z_par, @z_r1, @z_r1D, @z_r2, @z_r2D, @z_fld, @z_fldD, @z_prop, @z_isO, @z_meth, @z_callO, @z_make, @z_own2, @z_own1, @z_ownNe, @z_isi, @z_isiN, @z_isiB, @z_isiI, @z_isiS, @z_isiL, @z_isiT, @z_isiD⟩
theorem zGd3 : (type_of% @z_mt) ∧ (type_of% @z_mtS) ∧ (type_of% @z_mtL) ∧ (type_of% @z_en) ∧ (type_of% @z_enL) ∧ (type_of% @z_enD) ∧ (type_of% @z_inK) ∧ (type_of% @z_ninK) ∧ (type_of% @z_oF) ∧ (type_of% @z_setT) ∧ (type_of% @z_rVar) ∧ (type_of% @z_appR) ∧ (type_of% @z_oI) ∧ (type_of% @z_lstA0) ∧ (type_of% @z_lstAS) ∧ (type_of% @z_putS0) ∧ (type_of% @z_putSS) ∧ (type_of% @z_setO0) ∧ (type_of% @z_setO1) ∧ (type_of% @z_setO2) ∧ (type_of% @z_lstA1) := ⟨@z_mt, @z_mtS, @z_mtL, @z_en, @z_enL, @z_enD, @z_inK, @z_ninK, @z_oF, @z_setT, @z_rVar, @z_appR, @z_oI, @z_lstA0, @z_lstAS, @z_putS0, @z_putSS, @z_setO0, @z_setO1, @z_setO2, @z_lstA1⟩
theorem zGd4 : (type_of% @z_lstA2) ∧ (type_of% @z_ownO0) ∧ (type_of% @z_ownOS) := ⟨@z_lstA2, @z_ownO0, @z_ownOS⟩
theorem zGp0 : (type_of% @atI0) ∧ (type_of% @atI1) ∧ (type_of% @atI2) ∧ (type_of% @atI3) ∧ (type_of% @atI4) ∧ (type_of% @atI5) ∧ (type_of% @atI6) ∧ (type_of% @atI7) ∧ (type_of% @z_sz) ∧ (type_of% @z_notT) ∧ (type_of% @z_notF) ∧ (type_of% @z_tupD) ∧ (type_of% @z_lstD) ∧ (type_of% @iteS_t) ∧ (type_of% @iteS_f) ∧ (type_of% @iteE_t) ∧ (type_of% @iteE_f) ∧ (type_of% @anE_t) ∧ (type_of% @anE_f) ∧ (type_of% @orE_t) ∧ (type_of% @orE_f) ∧ (type_of% @anT_t) ∧ (type_of% @anT_f) ∧ (type_of% @orT_t) ∧ (type_of% @orT_f) ∧ (type_of% @z_atD) ∧ (type_of% @z_ixL) ∧ (type_of% @z_ixT) ∧ (type_of% @z_toDs) ∧ (type_of% @z_toDl) ∧ (type_of% @z_toDd) := ⟨@atI0, @atI1, @atI2, @atI3, @atI4, @atI5, @atI6, @atI7, @z_sz, @z_notT, @z_notF, @z_tupD, @z_lstD, @iteS_t, @iteS_f, @iteE_t, @iteE_f, @anE_t, @anE_f, @orE_t, @orE_f, @anT_t, @anT_f, @orT_t, @orT_f, @z_atD, @z_ixL, @z_ixT, @z_toDs, @z_toDl, @z_toDd⟩
end DL
namespace L2
open PySem PySem.Spec PyProof.Rows
section
variable {X : Cx} {pins : List (Addr × Obj)} {σ : St} {H H' : Hp} {s : Shared} {E : Value → Shared → Prop} {a : Addr} {y v : V} {u r : Value} {Q : Unit → Shared → Prop}
/-- what may stand at a dict that was just made -/
def Dc0 (o : HO) : Prop := o = .dK [] ∨ o = .dT []
theorem Dc0.ok {P : Program} {w : World} {H : Hp} {o : HO} (c : Dc0 o) (h : Heap) (hb : sysModules < h.objs.size) : ObjOk P w H (h.push { cls := .type "dict", data := .dict #[] }) h.objs.size o := by
  rcases c with rfl | rfl
  · exact dk_empty h hb
  · exact dt_empty h hb
end
end L2
namespace DL
open PySem PySem.Spec PyProof.Rows L2 Evl
section
variable {K : PySem.W.Frag} {B : Bx} {G : Hp}
theorem DatT.any {k : List Key} : ∀ {vs : List (List Key × V)} {xs : List (D × D)}, DatT K B G vs xs → (vs.any fun kv => decide (kv.1 = k)) = xs.any fun z => keqD z.1 (embT k)
  | _, _, .nil => rfl
  | _, _, .cons (k := i) _ t => by
    rw [List.any_cons, List.any_cons, DatT.any t]
    show (decide (i = k) || _) = (keqD (embT i) (embT k) || _)
    rw [keqD_T]
end
end DL
namespace DL
open PySem PySem.Spec PyProof.Rows L2 Evl
section
variable {prog : Program} {w : World} {A : Around} {E : Value → Shared → Prop} {s : Shared}
abbrev XT := List (List Key × Addr × Value)
inductive HitsH (prog : Program) (w : World) (A : Around) (s : Shared) (xb : XT) : XT → Bool → Prop
  | nil : HitsH prog w A s xb [] true
  | miss {k : List Key} {p : Addr × Value} {r : XT} : (∀ (j : Nat) (q : Addr × Value), xb[j]? ≠ some (k, q)) → HitsH prog w A s xb ((k, p) :: r) false
  | hit {k : List Key} {a : Addr} {v : Value} {j : Nat} {b : Addr} {y : Value} {r : XT} {e b' : Bool} : xb[j]? = some (k, (b, y)) → SeqAt.EqP prog w A s v y e → HitsH prog w A s xb r b' → HitsH prog w A s xb ((k, (a, v)) :: r) (e && b')
theorem HitsH.inv {xb : XT} {k : List Key} {a : Addr} {v : Value} {r : XT} {b : Bool} (h : HitsH prog w A s xb ((k, (a, v)) :: r) b) :
    ((∀ (j : Nat) (q : Addr × Value), xb[j]? ≠ some (k, q)) ∧ b = false) ∨ ∃ (j : Nat) (b0 : Addr) (y : Value) (e b' : Bool), xb[j]? = some (k, (b0, y)) ∧ SeqAt.EqP prog w A s v y e ∧ HitsH prog w A s xb r b' ∧ b = (e && b') := by
  cases h with
  | miss hn => exact .inl ⟨hn, rfl⟩
  | hit hy he hr => exact .inr ⟨_, _, _, _, _, hy, he, hr, rfl⟩
theorem samePairsH {nm : String} {a b : Addr} {xa xb : XT} {r : Bool} {Q : Bool → Shared → Prop} (hu : A.units < cLine) (ha : (a == sysModules) = false) (hb : (b == sysModules) = false)
    (da : s.heap.DictOfH (tupleKind (mixKind prog w)) a xa) (db : s.heap.DictOfH (tupleKind (mixKind prog w)) b xb) (hits : xa.length = xb.length → HitsH prog w A s xb xa r) (h : Q (xa.length == xb.length && r) s) :
    wpAny (model prog w) A (Builtin.Dict.samePairs nm a b) Q E s := by
  obtain ⟨oa, es, ep, hoa, _, hda, hea, hka, hna⟩ := da
  obtain ⟨ob, es', ep', hob, _, hdb, heb, hkb, hnb⟩ := db
  have hla : xa.length = es.size := (size_of_entries hea).symm
  have hlb : xb.length = es'.size := (size_of_entries heb).symm
  rw [hla, hlb] at h
  unfold Builtin.Dict.samePairs Builtin.Dict.showsAll
  rw [if_neg (show ¬ (a == sysModules) = true by rw [ha]; exact Bool.false_ne_true), if_neg (show ¬ (b == sysModules) = true by rw [hb]; exact Bool.false_ne_true)]
  refine wpAny_bind (wpAny_pure (wpAny_bind (wpAny_pure ?_)))
  refine wpAny_bind (wpAny_dictEntries hoa hda ?_)
  dsimp only
  refine wpAny_bind (wpAny_dictEntries hob hdb ?_)
  by_cases hsz : es.size = es'.size
  case neg =>
    rw [if_pos (by simpa using hsz)]
    have hbf : (es.size == es'.size) = false := by simpa using hsz
    rw [hbf, Bool.false_and] at h
    exact wpAny_bind (wpAny_rule (wpAny_pure h))
  case pos =>
    have h' : Q r s := by simpa [hsz] using h
    have hits' := hits (by rw [hla, hlb]; exact hsz)
    rw [if_neg (by rw [hsz]; simp)]
    refine wpAny_bind (wpAny_dictEpoch hoa hda ?_)
    refine wpAny_bind ?_
    rw [Std.Legacy.Range.forIn_eq_forIn_range']
    simp only [Std.Legacy.Range.size, Nat.sub_zero, Nat.add_sub_cancel, Nat.div_one]
    refine wpAny_forIn_list _
      (fun rest q s' => s' = s ∧ q = (none, ()) ∧ ∃ i, rest = List.range' i (es.size - i) ∧ i ≤ es.size ∧ HitsH prog w A s xb (xa.drop i) r)
      _ ?_ ?_ _ _ ⟨rfl, rfl, 0, by simp, Nat.zero_le _, hits'⟩
    · rintro x rest q s' ⟨rfl, rfl, i, hr, hi, hpre⟩
      have hlt : i < es.size := by
        rcases Nat.lt_or_ge i es.size with h | h
        · exact h
        · rw [Nat.sub_eq_zero_of_le h] at hr; simp at hr
      obtain ⟨rfl, hrest⟩ : x = i ∧ rest = List.range' (i + 1) (es.size - (i + 1)) := by
        have e : es.size - i = (es.size - (i + 1)) + 1 := by omega
        rw [e, List.range'_succ] at hr
        injection hr with h1 h2
        exact ⟨h1, h2⟩
      refine wpAny_bind (wpAny_dictEntries hoa hda ?_)
      have hlt' : x < xa.length := by rw [hla]; exact hlt
      obtain ⟨k, p, v, hkv⟩ : ∃ k p v, xa[x] = (k, (p, v)) := ⟨_, _, _, rfl⟩
      have hdrop : xa.drop x = (k, (p, v)) :: xa.drop (x + 1) := by rw [← hkv]; exact List.drop_eq_getElem_cons hlt'
      have hxe : es[x]? = some (entryOfKey (tupleKind (mixKind prog w)) (k, (p, v))) := by rw [entry_at hea x, List.getElem?_eq_getElem hlt', hkv]; rfl
      have hkey := hka (k, (p, v)) (by rw [← hkv]; exact List.getElem_mem hlt')
      rw [hxe]
      rw [hdrop] at hpre
      show wpAny _ _ (holding [Value.ref p, v] _ >>= _) _ _ _
      refine wpAny_bind (wpAny_holding (wpAny_bind (wpAny_dictFind_heap (knd := tupleKind (mixKind prog w)) hu hkey hob hdb heb hkb hnb (fun hno => ?_) (fun j pq hj => ?_))))
      · rcases hpre.inv with ⟨_, er⟩ | ⟨j, _, _, _, _, hy, _⟩
        · rw [er] at h'
          refine wpAny_pure ?_
          show wpAny _ _ (if (!false) = true then _ else _) _ _ _
          rw [if_pos (by decide)]
          exact wpAny_pure (wpAny_pure h')
        · exact absurd hy (hno j _)
      · obtain ⟨q1, q2⟩ := pq
        refine wpAny_bind (wpAny_dictEntries hob hdb ?_)
        have hje : es'[j]? = some (entryOfKey (tupleKind (mixKind prog w)) (k, (q1, q2))) := by rw [entry_at heb j, hj]; rfl
        rw [hje]
        rcases hpre.inv with ⟨hn, _⟩ | ⟨j2, b0, y, e, b', hy, he, hrr, er⟩
        · exact absurd hj (hn j _)
        · have ej : j2 = j := idxH_unique hnb hy hj
          subst ej
          rw [hj] at hy
          have ey : q2 = y := by injection hy with hy; injection hy with _ hy; injection hy
          rw [← ey] at he
          refine wpAny_holding (he _ _ ?_)
          cases e with
          | false =>
            rw [er, Bool.false_and] at h'
            show wpAny _ _ (if (!false) = true then _ else _) _ _ _
            rw [if_pos (by decide)]
            exact wpAny_pure (wpAny_pure h')
          | true =>
            rw [Bool.true_and] at er
            rw [← er] at hrr
            show wpAny _ _ (if (!true) = true then _ else _) _ _ _
            rw [if_neg (by decide)]
            refine wpAny_bind (wpAny_dictEpoch hoa hda ?_)
            rw [if_neg (by simp)]
            exact wpAny_pure ⟨rfl, rfl, x + 1, hrest, hlt, hrr⟩
    · rintro q s' ⟨rfl, rfl, i, hr, hi, hpre⟩
      have hin : i = es.size := by
        rcases Nat.lt_or_ge i es.size with h | h
        · have e : es.size - i = (es.size - (i + 1)) + 1 := by omega
          rw [e, List.range'_succ] at hr; exact nomatch hr
        · exact Nat.le_antisymm hi h
      refine wpAny_pure ?_
      rw [hin, ← hla, List.drop_length] at hpre
      cases hpre
      exact h'
theorem rcH_eq {a b : Addr} {xa xb : XT} {r : Bool} (ha : (a == sysModules) = false) (hb : (b == sysModules) = false) (da : s.heap.DictOfH (tupleKind (mixKind prog w)) a xa) (db : s.heap.DictOfH (tupleKind (mixKind prog w)) b xb)
    (hu : A.units + 1 < cLine) (hits : xa.length = xb.length → HitsH prog w A.in1 s xb xa r) (E Q : Value → Shared → Prop) (h : Q (.bool (xa.length == xb.length && r)) s) : wpAny (model prog w) A (richCompare .Eq (.ref a) (.ref b)) Q E s := by
  refine wpAny_richCompare_same_room (op := .Eq) da.typeIs db.typeIs PySem.F.slot_dict_eq (wpAny_call_entry PySem.F.slot_dict_eq da.typeIs PySem.F.entry_dict_eq ?_ (PySem.F.args_dict_eq_2 _ _)) (by omega)
  show wpAny _ _ (Builtin.Dict.dictSlotArgs "__eq__" ⟨[.ref a, .ref b], []⟩ >>= _) _ _ s
  refine wpAny_bind ?_
  unfold Builtin.Dict.dictSlotArgs
  refine wpAny_bind (wpAny_notOrdered_dict da.typeIs ?_)
  show wpAny _ _ (pure (Value.ref a, Value.ref b)) _ _ s
  refine wpAny_pure ?_
  refine wpAny_bind (wpAny_isInstance (T := "dict") db.typeIs PySem.F.sub_dict_dict ?_)
  simp only [Bool.not_true, Bool.false_eq_true, if_false]
  refine wpAny_bind (wpAny_pure (wpAny_bind (wpAny_pure ?_)))
  refine wpAny_bind (samePairsH (A := A.in1) (show A.units + 1 < cLine from hu) ha hb da db hits ?_)
  refine wpAny_pure ⟨_, rfl, ?_, ?_⟩
  · exact fun x => nomatch x
  · simpa using h
end
end DL
namespace DL
open PySem PySem.Spec PyProof.Rows L2 Evl
mutual
def eqG : D → D → Bool
  | .lst xs, .lst ys => eqGs xs ys
  | .tup xs, .tup ys => eqGs xs ys
  | .dic ks, .dic ls => (ks.length == ls.length) && eqGk ls ks
  | x, y => eqb x y
def eqGs : List D → List D → Bool
  | [], [] => true
  | x :: xs, y :: ys => eqG x y && eqGs xs ys
  | _, _ => false
def eqGk (ls : List (D × D)) : List (D × D) → Bool
  | [] => true
  | (k, v) :: r => (match lookK ls k with
    | some y => eqG v y && eqGk ls r
    | none => false)
end
def nodupK : List (D × D) → Bool
  | [] => true
  | (k, _) :: r => keqD k k && !(r.any fun z => keqD k z.1) && nodupK r
mutual
def okG : D → Bool
  | .dic ks => nodupK ks && okGk ks
  | .lst xs => okGs xs
  | .tup xs => okGs xs
  | .obj _ _ => false
  | .bag => false
  | .ktup _ => false
  | _ => true
def okGs : List D → Bool
  | [] => true
  | x :: xs => okG x && okGs xs
def okGk : List (D × D) → Bool
  | [] => true
  | (k, v) :: r => okG k && okG v && okGk r
end
def kfit (ks ls : List (D × D)) : Bool := (ks.all (fun z => (dk1 z.1).isSome) && ls.all (fun z => (dk1 z.1).isSome)) || (ks.all (fun z => (dkT z.1).isSome) && ls.all (fun z => (dkT z.1).isSome))
mutual
theorem eqG_fine : ∀ (x y : D), x.fine = true → y.fine = true → eqG x y = eqb x y
  | .lst xs, .lst ys, h, h' => by
    rw [eqG, eqb, D.py, D.py, PyData.eqv]
    exact eqGs_fine xs ys (by simpa [D.fine] using h) (by simpa [D.fine] using h')
  | .tup xs, .tup ys, h, h' => by
    rw [eqG, eqb, D.py, D.py, PyData.eqv]
    exact eqGs_fine xs ys (by simpa [D.fine] using h) (by simpa [D.fine] using h')
  | .dic _, .dic _, h, _ => by simp [D.fine] at h
  | .non, y, _, _ => by cases y <;> rfl
  | .bl _, y, _, _ => by cases y <;> rfl
  | .int _, y, _, _ => by cases y <;> rfl
  | .str _, y, _, _ => by cases y <;> rfl
  | .obj _ _, y, _, _ => by cases y <;> rfl
  | .bag, y, _, _ => by cases y <;> rfl
  | .ktup _, y, _, _ => by cases y <;> rfl
  | .lst xs, .non, _, _ => rfl
  | .lst xs, .bl _, _, _ => rfl
  | .lst xs, .int _, _, _ => rfl
  | .lst xs, .str _, _, _ => rfl
  | .lst xs, .tup _, _, _ => rfl
  | .lst xs, .dic _, _, _ => rfl
  | .lst xs, .obj _ _, _, _ => rfl
  | .lst xs, .bag, _, _ => rfl
  | .lst xs, .ktup _, _, _ => rfl
  | .tup xs, .non, _, _ => rfl
  | .tup xs, .bl _, _, _ => rfl
  | .tup xs, .int _, _, _ => rfl
  | .tup xs, .str _, _, _ => rfl
  | .tup xs, .lst _, _, _ => rfl
  | .tup xs, .dic _, _, _ => rfl
  | .tup xs, .obj _ _, _, _ => rfl
  | .tup xs, .bag, _, _ => rfl
  | .tup xs, .ktup _, _, _ => rfl
  | .dic _, .non, _, _ => rfl
  | .dic _, .bl _, _, _ => rfl
  | .dic _, .int _, _, _ => rfl
  | .dic _, .str _, _, _ => rfl
  | .dic _, .lst _, _, _ => rfl
  | .dic _, .tup _, _, _ => rfl
  | .dic _, .obj _ _, _, _ => rfl
  | .dic _, .bag, _, _ => rfl
  | .dic _, .ktup _, _, _ => rfl
theorem eqGs_fine : ∀ (xs ys : List D), fineL xs = true → fineL ys = true → eqGs xs ys = PyData.eqvAll (pyL xs) (pyL ys)
  | [], [], _, _ => by rw [eqGs, pyL, PyData.eqvAll]
  | x :: xs, y :: ys, h, h' => by
    have a : x.fine = true ∧ fineL xs = true := by simpa [fineL] using h
    have b : y.fine = true ∧ fineL ys = true := by simpa [fineL] using h'
    rw [eqGs, pyL, pyL, PyData.eqvAll, eqG_fine x y a.1 b.1, eqGs_fine xs ys a.2 b.2, eqb]
  | [], _ :: _, _, _ => by rw [eqGs, pyL, pyL, PyData.eqvAll] <;> simp
  | _ :: _, [], _, _ => by rw [eqGs, pyL, pyL, PyData.eqvAll] <;> simp
end
theorem lookK_cons {α : Type} {k y : D} {v : α} {r : List (D × α)} : lookK ((k, v) :: r) y = if keqD k y = true then some v else lookK r y := by
  unfold lookK
  rw [List.find?_cons]
  by_cases h : keqD k y = true
  · rw [if_pos h]; simp [h]
  · rw [if_neg h]; simp [h]
section
variable {K : PySem.W.Frag} {B : Bx} {G : Hp}
mutual
/-- what a value tells is one thing -/
theorem Dat.fn : ∀ {v : V} {d e : D}, Dat K B G v d → Dat K B G v e → okG d = true → okG e = true → d = e
  | _, _, _, .non, h, _, _ => by cases h; rfl
  | _, _, _, .bl b, h, _, _ => by cases h; rfl
  | _, _, _, .int i, h, _, _ => by cases h; rfl
  | _, _, _, .str x, h, _, _ => by cases h; rfl
  | _, _, _, .lst a t, h, o, o' => by
    cases h with
    | lst a' t' =>
      rw [a] at a'
      injection a' with a'; injection a' with a'
      subst a'
      rw [Dats.fn t t' (by simpa [okG] using o) (by simpa [okG] using o')]
    | tup a' t' => rw [a] at a'; injection a' with a'; cases a'
    | dK a' t' => rw [a] at a'; injection a' with a'; cases a'
    | dT a' t' => rw [a] at a'; injection a' with a'; cases a'
    | ktup _ _ => simp [okG] at o'
    | bag => simp [okG] at o'
    | obj _ _ _ => simp [okG] at o'
  | _, _, _, .tup a t, h, o, o' => by
    cases h with
    | tup a' t' =>
      rw [a] at a'
      injection a' with a'; injection a' with a'
      subst a'
      rw [Dats.fn t t' (by simpa [okG] using o) (by simpa [okG] using o')]
    | lst a' t' => rw [a] at a'; injection a' with a'; cases a'
    | dK a' t' => rw [a] at a'; injection a' with a'; cases a'
    | dT a' t' => rw [a] at a'; injection a' with a'; cases a'
    | ktup _ _ => simp [okG] at o'
    | bag => simp [okG] at o'
    | obj _ _ _ => simp [okG] at o'
  | _, _, _, .dK a t, h, o, o' => by
    have ho : okGk _ = true := (Bool.and_eq_true_iff.mp (by simpa [okG] using o)).2
    have ho' := o'
    cases h with
    | dK a' t' =>
      rw [a] at a'
      injection a' with a'; injection a' with _ a'; injection a' with a'
      subst a'
      rw [DatK.fn t t' ho (Bool.and_eq_true_iff.mp (by simpa [okG] using o')).2]
    | lst a' t' => rw [a] at a'; injection a' with a'; cases a'
    | tup a' t' => rw [a] at a'; injection a' with a'; cases a'
    | dT a' t' => rw [a] at a'; injection a' with a'; injection a' with _ a'; cases a'
    | ktup _ _ => simp [okG] at o'
    | bag => simp [okG] at o'
    | obj _ _ _ => simp [okG] at o'
  | _, _, _, .dT a t, h, o, o' => by
    have ho : okGk _ = true := (Bool.and_eq_true_iff.mp (by simpa [okG] using o)).2
    cases h with
    | dT a' t' =>
      rw [a] at a'
      injection a' with a'; injection a' with _ a'; injection a' with a'
      subst a'
      rw [DatT.fn t t' ho (Bool.and_eq_true_iff.mp (by simpa [okG] using o')).2]
    | lst a' t' => rw [a] at a'; injection a' with a'; cases a'
    | tup a' t' => rw [a] at a'; injection a' with a'; cases a'
    | dK a' t' => rw [a] at a'; injection a' with a'; injection a' with _ a'; cases a'
    | ktup _ _ => simp [okG] at o'
    | bag => simp [okG] at o'
    | obj _ _ _ => simp [okG] at o'
  | _, _, _, .ktup _ _, _, o, _ => by simp [okG] at o
  | _, _, _, .bag, _, o, _ => by simp [okG] at o
  | _, _, _, .obj _ _ _, _, o, _ => by simp [okG] at o
theorem Dats.fn : ∀ {v : List V} {d e : List D}, Dats K B G v d → Dats K B G v e → okGs d = true → okGs e = true → d = e
  | _, _, _, .nil, h, _, _ => by cases h; rfl
  | _, _, _, .cons a t, h, o, o' => by
    cases h with
    | cons a' t' =>
      have h1 := Bool.and_eq_true_iff.mp (by simpa only [okGs] using o)
      have h2 := Bool.and_eq_true_iff.mp (by simpa only [okGs] using o')
      rw [Dat.fn a a' h1.1 h2.1, Dats.fn t t' h1.2 h2.2]
theorem DatK.fn : ∀ {v : List (Key × V)} {d e : List (D × D)}, DatK K B G v d → DatK K B G v e → okGk d = true → okGk e = true → d = e
  | _, _, _, .nil, h, _, _ => by cases h; rfl
  | _, _, _, .consI a t, h, o, o' => by
    cases h with
    | consI a' t' =>
      have h1 := Bool.and_eq_true_iff.mp (by simpa only [okGk] using o)
      have h2 := Bool.and_eq_true_iff.mp (by simpa only [okGk] using o')
      rw [Dat.fn a a' (Bool.and_eq_true_iff.mp h1.1).2 (Bool.and_eq_true_iff.mp h2.1).2, DatK.fn t t' h1.2 h2.2]
  | _, _, _, .consS a t, h, o, o' => by
    cases h with
    | consS a' t' =>
      have h1 := Bool.and_eq_true_iff.mp (by simpa only [okGk] using o)
      have h2 := Bool.and_eq_true_iff.mp (by simpa only [okGk] using o')
      rw [Dat.fn a a' (Bool.and_eq_true_iff.mp h1.1).2 (Bool.and_eq_true_iff.mp h2.1).2, DatK.fn t t' h1.2 h2.2]
theorem DatT.fn : ∀ {v : List (List Key × V)} {d e : List (D × D)}, DatT K B G v d → DatT K B G v e → okGk d = true → okGk e = true → d = e
  | _, _, _, .nil, h, _, _ => by cases h; rfl
  | _, _, _, .cons a t, h, o, o' => by
    cases h with
    | cons a' t' =>
      have h1 := Bool.and_eq_true_iff.mp (by simpa only [okGk] using o)
      have h2 := Bool.and_eq_true_iff.mp (by simpa only [okGk] using o')
      rw [Dat.fn a a' (Bool.and_eq_true_iff.mp h1.1).2 (Bool.and_eq_true_iff.mp h2.1).2, DatT.fn t t' h1.2 h2.2]
end
end
section
variable {X : Cx} {B : Bx} {pins : List (Addr × Obj)} {σ : L2.St} {G H : Hp} {s : Shared}
def RcP (P : Program) (w : World) (A : Around) (s : Shared) (v u : Value) (b : Bool) : Prop := ∀ (E Q : Value → Shared → Prop), Q (.bool b) s → wpAny (model P w) A (richCompare .Eq v u) Q E s
/-- two data, compared in a state -/
def EqB (X : Cx) (B : Bx) (G : Hp) (s : Shared) (A : Around) (d e : D) : Prop := ∀ (x y : V) (v u : Value), Dat X.K B G x d → Dat X.K B G y e → RelV x v → RelV y u → SeqAt.EqP X.prog X.w A s v u (eqG d e)
theorem eqB_plain (I : Inv X pins σ H s) (e : Ex G H) {d d' : D} {A : Around} (hu : A.units + 64 < cLine) (p : plain d = true) (p' : plain d' = true) {x y : V} {v u : Value} (hx : Dat X.K B G x d) (hy : Dat X.K B G y d') (rx : RelV x v) (ry : RelV y u) :
    SeqAt.EqP X.prog X.w A s v u (eqG d d') ∧ RcP X.prog X.w A s v u (eqG d d') := by
  have f := (Bool.and_eq_true_iff.mp p).1
  have f' := (Bool.and_eq_true_iff.mp p').1
  rw [eqG_fine d d' f f']
  obtain ⟨as, ra⟩ := Dp.reads I _ _ _ (dat_dp e hx f) rx
  obtain ⟨bs, rb⟩ := Dp.reads I _ _ _ (dat_dp e hy f') ry
  have sh := plain_shaped p
  exact ⟨(SeqAt.eqAt_reads _ _ A s v u as bs ra rb (py_lay d f) (py_lay d' f') (SeqAt.room_of_shaped sh hu)).eqP,
    fun E Q h => SeqAt.eqOverData X.prog X.w A E s v u _ _ as bs Q ra rb (py_lay d f) (py_lay d' f') (SeqAt.room_of_shaped sh hu) h⟩
theorem lookK_K : ∀ {kvs : List (Key × V)} {ks : List (D × D)}, DatK X.K B G kvs ks → ∀ k : Key, (valV kvs k = none ∧ lookK ks (embK k) = none) ∨ ∃ v d, valV kvs k = some v ∧ lookK ks (embK k) = some d ∧ Dat X.K B G v d
  | _, _, .nil, k => .inl ⟨rfl, rfl⟩
  | _, _, .consI (i := i) h t, k => by
    rw [lookK_cons]
    have q : keqD (.int i) (embK k) = decide ((.inl i : Key) = k) := keqD_K (.inl i) k
    by_cases e : (.inl i : Key) = k
    · rw [valV_pos (p := (Sum.inl i, _)) e, if_pos (by rw [q]; exact decide_eq_true e)]
      exact .inr ⟨_, _, rfl, rfl, h⟩
    · rw [valV_neg (p := (Sum.inl i, _)) e, if_neg (by rw [q, decide_eq_false e]; decide)]
      exact lookK_K t k
  | _, _, .consS (x := i) h t, k => by
    rw [lookK_cons]
    have q : keqD (.str i) (embK k) = decide ((.inr i : Key) = k) := keqD_K (.inr i) k
    by_cases e : (.inr i : Key) = k
    · rw [valV_pos (p := (Sum.inr i, _)) e, if_pos (by rw [q]; exact decide_eq_true e)]
      exact .inr ⟨_, _, rfl, rfl, h⟩
    · rw [valV_neg (p := (Sum.inr i, _)) e, if_neg (by rw [q, decide_eq_false e]; decide)]
      exact lookK_K t k
theorem lookK_T : ∀ {kvs : List (List Key × V)} {ks : List (D × D)}, DatT X.K B G kvs ks → ∀ k : List Key, (valV kvs k = none ∧ lookK ks (embT k) = none) ∨ ∃ v d, valV kvs k = some v ∧ lookK ks (embT k) = some d ∧ Dat X.K B G v d
  | _, _, .nil, k => .inl ⟨rfl, rfl⟩
  | _, _, .cons (k := i) h t, k => by
    rw [lookK_cons]
    have q := keqD_T i k
    by_cases e : i = k
    · rw [valV_pos (p := (i, _)) e, if_pos (by rw [q]; exact decide_eq_true e)]
      exact .inr ⟨_, _, rfl, rfl, h⟩
    · rw [valV_neg (p := (i, _)) e, if_neg (by rw [q, decide_eq_false e]; decide)]
      exact lookK_T t k
def AllB (X : Cx) (B : Bx) (G : Hp) (s : Shared) (A : Around) (ls ks : List (D × D)) : Prop := ∀ k v y, (k, v) ∈ ks → lookK ls k = some y → EqB X B G s A v y
theorem AllB.tail {A : Around} {ls ks : List (D × D)} {z : D × D} (h : AllB X B G s A ls (z :: ks)) : AllB X B G s A ls ks := fun k v y m e => h k v y (List.mem_cons_of_mem _ m) e
theorem hitsK {A : Around} {lvs : List (Key × V)} {ls : List (D × D)} {vb : List (Key × Value)} (hb : DatK X.K B G lvs ls) (rb : KV lvs vb) : ∀ {kvs : List (Key × V)} {ks : List (D × D)} {va : List (Key × Value)}, DatK X.K B G kvs ks → KV kvs va → AllB X B G s A ls ks → PySem.W.KeqHitsP X.prog X.w A s vb va (eqGk ls ks)
  | _, _, _, .nil, r, _ => by
    unfold KV at r
    cases r
    rw [eqGk]
    exact .nil
  | _, _, _, .consI (i := i) (v := v) (d := d) (ds := ds) h t, r, al => by
    unfold KV at r
    cases r with
    | cons h1 h2 =>
      rename_i q qs
      obtain ⟨qk, qv⟩ := q
      obtain ⟨e1, e2⟩ := h1
      cases (show (Sum.inl i : Key) = qk from e1)
      rw [eqGk]
      have rr := rb.val (.inl i)
      rcases lookK_K hb (.inl i) with ⟨n1, n2⟩ | ⟨y, dy, y1, y2, y3⟩
      · rw [show lookK ls (.int i) = none from n2]
        rw [n1] at rr
        exact .miss rr.none_of
      · rw [show lookK ls (.int i) = some dy from y2]
        rw [y1] at rr
        obtain ⟨u, hu, ru⟩ := rr.some_of
        exact .hit hu (al (.int i) d dy List.mem_cons_self y2 _ _ _ _ h y3 e2 ru) (hitsK hb rb t h2 al.tail)
  | _, _, _, .consS (x := i) (v := v) (d := d) (ds := ds) h t, r, al => by
    unfold KV at r
    cases r with
    | cons h1 h2 =>
      rename_i q qs
      obtain ⟨qk, qv⟩ := q
      obtain ⟨e1, e2⟩ := h1
      cases (show (Sum.inr i : Key) = qk from e1)
      rw [eqGk]
      have rr := rb.val (.inr i)
      rcases lookK_K hb (.inr i) with ⟨n1, n2⟩ | ⟨y, dy, y1, y2, y3⟩
      · rw [show lookK ls (.str i) = none from n2]
        rw [n1] at rr
        exact .miss rr.none_of
      · rw [show lookK ls (.str i) = some dy from y2]
        rw [y1] at rr
        obtain ⟨u, hu, ru⟩ := rr.some_of
        exact .hit hu (al (.str i) d dy List.mem_cons_self y2 _ _ _ _ h y3 e2 ru) (hitsK hb rb t h2 al.tail)
theorem atKey_some {xs : XT} {k : List Key} {p : Addr × Value} (h : atKey xs k = some p) : ∃ j : Nat, xs[j]? = some (k, p) := by
  unfold atKey at h
  cases hf : (xs.find? fun x => decide (x.1 = k)) with
  | none => rw [hf] at h; cases h
  | some z =>
    rw [hf] at h
    have hz := List.find?_some hf
    have hm := List.mem_of_find?_eq_some hf
    obtain ⟨j, hj⟩ := List.mem_iff_getElem?.mp hm
    refine ⟨j, ?_⟩
    rw [hj]
    have e1 : z.1 = k := of_decide_eq_true hz
    have e2 : z.2 = p := by simpa using h
    rw [← e1, ← e2]
theorem atKey_none {xs : XT} {k : List Key} (h : atKey xs k = none) : ∀ (j : Nat) (q : Addr × Value), xs[j]? ≠ some (k, q) := by
  intro j q hj
  unfold atKey at h
  cases hf : (xs.find? fun x => decide (x.1 = k)) with
  | none =>
    have := List.find?_eq_none.mp hf (k, q) (List.mem_of_getElem? hj)
    simp at this
  | some z => rw [hf] at h; cases h
theorem hitsT {A : Around} {lvs : List (List Key × V)} {ls : List (D × D)} {xb : XT} (hb : DatT X.K B G lvs ls) (rb : KT H lvs xb) : ∀ {kvs : List (List Key × V)} {ks : List (D × D)} {xa : XT}, DatT X.K B G kvs ks → KT H kvs xa → AllB X B G s A ls ks → HitsH X.prog X.w A s xb xa (eqGk ls ks)
  | _, _, _, .nil, r, _ => by
    cases r
    rw [eqGk]
    exact .nil
  | _, _, _, .cons (k := i) (v := v) (d := d) (ds := ds) h t, r, al => by
    cases r with
    | cons h1 h2 =>
      rename_i q qs
      obtain ⟨qk, qa, qv⟩ := q
      obtain ⟨e1, _, e2⟩ := h1
      cases (show i = qk from e1)
      rw [eqGk]
      have rr := KT.val rb i
      rcases lookK_T hb i with ⟨n1, n2⟩ | ⟨y, dy, y1, y2, y3⟩
      · rw [n2]
        rw [n1] at rr
        have := rr.none_of
        refine .miss (atKey_none ?_)
        cases hk : atKey xb i with
        | none => rfl
        | some z => rw [hk] at this; cases this
      · rw [y2]
        rw [y1] at rr
        obtain ⟨u, hu, ru⟩ := rr.some_of
        obtain ⟨p, hp, hp2⟩ : ∃ p, atKey xb i = some p ∧ p.2 = u := by
          cases hk : atKey xb i with
          | none => rw [hk] at hu; cases hu
          | some z => rw [hk] at hu; exact ⟨z, rfl, by simpa using hu⟩
        obtain ⟨j, hj⟩ := atKey_some hp
        obtain ⟨pa, pv⟩ := p
        cases hp2
        exact .hit hj (al (embT i) d dy List.mem_cons_self y2 _ _ _ _ h y3 e2 ru) (hitsT hb rb t h2 al.tail)
theorem dk1_T (k : List Key) : dk1 (embT k) = none := rfl
theorem DatT.keysT : ∀ {vs : List (List Key × V)} {xs : List (D × D)}, DatT X.K B G vs xs → (xs.all fun z => (dk1 z.1).isSome) = true → vs = [] ∧ xs = []
  | _, _, .nil, _ => ⟨rfl, rfl⟩
  | _, _, .cons _ _, h => by simp [dk1_T] at h
theorem DatK.keysK : ∀ {vs : List (Key × V)} {xs : List (D × D)}, DatK X.K B G vs xs → (xs.all fun z => (dkT z.1).isSome) = true → vs = [] ∧ xs = []
  | _, _, .nil, _ => ⟨rfl, rfl⟩
  | _, _, .consI _ _, h => by simp [dkT] at h
  | _, _, .consS _ _, h => by simp [dkT] at h
/-- an empty dict is one of any keys -/
theorem emptyK {P : Program} {w : World} {h : Heap} {a : Addr} (d : h.DictOfH (tupleKind (mixKind P w)) a []) : h.DictOf (mixKind P w) a [] := by
  obtain ⟨o, es, ep, h1, h2, h3, h4, _, _⟩ := d
  have e : es = #[] := Array.toList_eq_nil_iff.mp (by rw [h4]; rfl)
  subst e
  exact ⟨o, #[], ep, h1, h2, h3, (fun e he => by simp at he), .nil, List.nodup_nil⟩
theorem emptyT {P : Program} {w : World} {h : Heap} {a : Addr} (d : h.DictOf (mixKind P w) a []) : h.DictOfH (tupleKind (mixKind P w)) a [] := by
  obtain ⟨o, es, ep, h1, h2, h3, h4, h5, h6⟩ := d
  have e : es = #[] := by
    have := h5.length
    apply Array.eq_empty_of_size_eq_zero
    simpa using this
  subst e
  exact ⟨o, #[], ep, h1, h2, h3, rfl, (fun x hx => by simp at hx), List.nodup_nil⟩
/-- what a datum that is a dict tells of the heap, by its keys -/
theorem dic_K (I : Inv X pins σ H s) (e : Ex G H) {x : V} {ks : List (D × D)} (h : Dat X.K B G x (.dic ks)) (hk : (ks.all fun z => (dk1 z.1).isSome) = true) : ∃ a kvs va, x = .ref a ∧ DatK X.K B G kvs ks ∧ KV kvs va ∧ (a == sysModules) = false ∧ s.heap.DictOf (mixKind X.prog X.w) a va := by
  cases h with
  | dK g t =>
    obtain ⟨_, hd, vs, rel, dd⟩ := dk_rd I.hok (.inr ⟨_, e _ _ g⟩)
    exact ⟨_, _, vs, rfl, t, rel, hd, dd⟩
  | dT g t =>
    obtain ⟨e1, e2⟩ := DatT.keysT t hk
    subst e1 e2
    obtain ⟨_, hd, xs, rel, dd⟩ := dt_rd I.hok (.inr ⟨_, e _ _ g⟩)
    cases rel
    exact ⟨_, [], [], rfl, .nil, Paired.nil, hd, emptyK dd⟩
theorem dic_T (I : Inv X pins σ H s) (e : Ex G H) {x : V} {ks : List (D × D)} (h : Dat X.K B G x (.dic ks)) (hk : (ks.all fun z => (dkT z.1).isSome) = true) : ∃ a kvs xa, x = .ref a ∧ DatT X.K B G kvs ks ∧ KT H kvs xa ∧ (a == sysModules) = false ∧ s.heap.DictOfH (tupleKind (mixKind X.prog X.w)) a xa := by
  cases h with
  | dT g t =>
    obtain ⟨_, hd, xs, rel, dd⟩ := dt_rd I.hok (.inr ⟨_, e _ _ g⟩)
    exact ⟨_, _, xs, rfl, t, rel, hd, dd⟩
  | dK g t =>
    obtain ⟨e1, e2⟩ := DatK.keysK t hk
    subst e1 e2
    obtain ⟨_, hd, vs, rel, dd⟩ := dk_rd I.hok (.inr ⟨_, e _ _ g⟩)
    have : vs = [] := by unfold KV at rel; cases rel; rfl
    subst this
    exact ⟨_, [], [], rfl, .nil, .nil, hd, emptyT dd⟩
end
end DL
namespace DL
open PySem PySem.Spec PyProof.Rows L2 Evl
section
variable {X : Cx} {B : Bx} {pins : List (Addr × Obj)} {σ : L2.St} {H G : Hp} {s : Shared} {e o i : Expr} {r ry rx : DE} {pos : Pos}
theorem DatK.len {K : PySem.W.Frag} : ∀ {kvs : List (Key × V)} {ks : List (D × D)}, DatK K B G kvs ks → kvs.length = ks.length
  | _, _, .nil => rfl
  | _, _, .consI _ t => by rw [List.length_cons, List.length_cons, DatK.len t]
  | _, _, .consS _ t => by rw [List.length_cons, List.length_cons, DatK.len t]
theorem DatT.len {K : PySem.W.Frag} : ∀ {kvs : List (List Key × V)} {ks : List (D × D)}, DatT K B G kvs ks → kvs.length = ks.length
  | _, _, .nil => rfl
  | _, _, .cons _ t => by rw [List.length_cons, List.length_cons, DatT.len t]
end
section
variable {K : PySem.W.Frag} {B : Bx} {G : Hp} {d : Addr} {o : Obj}
theorem DatK.at : ∀ {kvs : List (Key × V)} {ks : List (D × D)}, DatK K B G kvs ks → ∀ {i : Nat} {k : Key} {v : V}, kvs[i]? = some (k, v) → ∃ x, ks[i]? = some (embK k, x) ∧ Dat K B G v x
  | _, _, .nil, _, _, _, h => nomatch h
  | _, _, .consI h1 _, 0, _, _, h => by cases h; exact ⟨_, rfl, h1⟩
  | _, _, .consS h1 _, 0, _, _, h => by cases h; exact ⟨_, rfl, h1⟩
  | _, _, .consI _ t, i + 1, _, _, h => DatK.at t (i := i) h
  | _, _, .consS _ t, i + 1, _, _, h => DatK.at t (i := i) h
theorem DatT.at : ∀ {kvs : List (List Key × V)} {ks : List (D × D)}, DatT K B G kvs ks → ∀ {i : Nat} {k : List Key} {v : V}, kvs[i]? = some (k, v) → ∃ x, ks[i]? = some (embT k, x) ∧ Dat K B G v x
  | _, _, .nil, _, _, _, h => nomatch h
  | _, _, .cons h1 _, 0, _, _, h => by cases h; exact ⟨_, rfl, h1⟩
  | _, _, .cons _ t, i + 1, _, _, h => DatT.at t (i := i) h
theorem dat_kV (k : Key) : Dat K B G (kV k) (embK k) := by cases k; exact .int _; exact .str _
theorem dats_kV : ∀ k : List Key, Dats K B G (k.map kV) (k.map embK)
  | [] => .nil
  | k :: ks => .cons (dat_kV k) (dats_kV ks)
/-- a tuple of numbers and texts that stands there is, or becomes, known -/
theorem Gr.tupK {H : Hp} {q : Addr} {k : List Key} (j : Jn K B G H) (h : H q = some (.tup (k.map kV))) : ∃ G2, Gr K B G H G2 H ∧ Dat K B G2 (.ref q) (embT k) := by
  cases g : G q with
  | none => exact ⟨_, Gr.learn j h g, .tup upd_same (dats_kV k)⟩
  | some o =>
    have := j.ex _ _ g
    rw [h] at this
    cases this
    exact ⟨G, Gr.refl j, .tup g (dats_kV k)⟩
end
end DL
namespace DL
open PySem PySem.Spec PyProof.Rows L2 Evl PySem.W
section
variable {K : PySem.W.Frag} {B : Bx} {G H : Hp}
/-- tuples of numbers and texts that stand there become known -/
theorem Gr.tupKs (j : Jn K B G H) : ∀ {qs : List Addr} {kk : List (List Key)}, qs.length = kk.length → (∀ (i : Nat) (q : Addr) (k : List Key), qs[i]? = some q → kk[i]? = some k → H q = some (.tup (k.map kV))) → ∃ G2, Gr K B G H G2 H ∧ Dats K B G2 (qs.map V.ref) (kk.map embT)
  | [], [], _, _ => ⟨G, Gr.refl j, .nil⟩
  | q :: qs, k :: kk, hl, h => by
    obtain ⟨G2, g2, d2⟩ := Gr.tupKs j (qs := qs) (kk := kk) (by simpa using hl) fun i q' k' h1 h2 => h (i + 1) q' k' h1 h2
    obtain ⟨G3, g3, d3⟩ := Gr.tupK g2.j (h 0 q k rfl rfl)
    exact ⟨G3, g2.trans g3, .cons d3 (d2.mono g3.ex)⟩
  | [], _ :: _, hl, _ => by simp at hl
  | _ :: _, [], hl, _ => by simp at hl
theorem vals_of_get : ∀ {xs : List V} {vs : List Value}, xs.length = vs.length → (∀ (i : Nat) (a : V) (b : Value), xs[i]? = some a → vs[i]? = some b → RelV a b) → Vals xs vs
  | [], [], _, _ => .nil
  | x :: xs, v :: vs, hl, h => .cons (h 0 x v rfl rfl) (vals_of_get (by simpa using hl) fun i a b h1 h2 => h (i + 1) a b h1 h2)
  | [], _ :: _, hl, _ => by simp at hl
  | _ :: _, [], hl, _ => by simp at hl
theorem vals_refs : ∀ qs : List Addr, Vals (qs.map V.ref) (qs.map Value.ref)
  | [] => .nil
  | q :: qs => .cons rfl (vals_refs qs)
theorem datK_keys : ∀ {kvs : List (Key × V)} {ks : List (D × D)}, DatK K B G kvs ks → Dats K B G (kvs.map fun p => kV p.1) (ks.map (·.1))
  | _, _, .nil => .nil
  | _, _, .consI _ t => .cons (.int _) (datK_keys t)
  | _, _, .consS _ t => .cons (.str _) (datK_keys t)
theorem datT_keys : ∀ {kvs : List (List Key × V)} {ks : List (D × D)}, DatT K B G kvs ks → (kvs.map (·.1)).map embT = ks.map (·.1)
  | _, _, .nil => rfl
  | _, _, .cons _ t => by rw [List.map_cons, List.map_cons, List.map_cons, datT_keys t]
end
end DL
namespace DL
open PySem PySem.Spec PyProof.Rows L2 Evl PySem.W
def valsP (ks : List (D × D)) : Bool := ks.all fun z => plain z.2
def oEqD (neg : Bool) : O2 := fun x y Q => match x, y with
  | .dic ks, .dic ls => (valsP ks = true ∧ valsP ls = true ∧ kfit ks ls = true) ∧ Q (.bl (if neg then !eqG (.dic ks) (.dic ls) else eqG (.dic ks) (.dic ls)))
  | _, _ => False
section
variable {X : Cx} {B : Bx} {pins : List (Addr × Obj)} {σ : L2.St} {H G : Hp} {s : Shared}
theorem lookK_mem {ks : List (D × D)} {y v : D} (h : lookK ks y = some v) : ∃ k, (k, v) ∈ ks := by
  unfold lookK at h
  obtain ⟨z, hz, e⟩ := Option.map_eq_some_iff.mp h
  subst e
  exact ⟨z.1, List.mem_of_find?_eq_some hz⟩
theorem allB_plain (I : Inv X pins σ H s) (e : Ex G H) {A : Around} (hu : A.units + 64 < cLine) {ls ks : List (D × D)} (h1 : valsP ks = true) (h2 : valsP ls = true) : AllB X B G s A ls ks := fun k v y m l => by
  intro a b va vb ha hb ra rb
  obtain ⟨k', m'⟩ := lookK_mem l
  exact (eqB_plain I e hu (List.all_eq_true.mp h1 _ m) (List.all_eq_true.mp h2 _ m') ha hb ra rb).1
theorem kfit_or {ks ls : List (D × D)} (h : kfit ks ls = true) : ((ks.all fun z => (dk1 z.1).isSome) = true ∧ (ls.all fun z => (dk1 z.1).isSome) = true) ∨ ((ks.all fun z => (dkT z.1).isSome) = true ∧ (ls.all fun z => (dkT z.1).isSome) = true) := by
  unfold kfit at h
  rcases Bool.or_eq_true_iff.mp h with h | h
  · exact .inl (Bool.and_eq_true_iff.mp h)
  · exact .inr (Bool.and_eq_true_iff.mp h)
theorem op_eqDD (hu : X.A.units + 66 < cLine) : OpR X (compareOp .Eq) (rLift X.K B (oEqD false)) := by
  intro pins s σ H x y v u P I rx ry h
  obtain ⟨G, dx, dy, Q, j, hx, hy, hq, k⟩ := h
  cases dx with
  | dic ks =>
    cases dy with
    | dic ls =>
      obtain ⟨⟨p1, p2, kf⟩, q⟩ := hq
      have kk := k _ _ G H q (Gr.refl j) (.bl _)
      rcases kfit_or kf with ⟨f1, f2⟩ | ⟨f1, f2⟩
      · obtain ⟨a, kvs, va, rfl, d1, r1, s1, h1⟩ := dic_K I j.ex hx f1
        obtain ⟨b, lvs, vb, rfl, d2, r2, s2, h2⟩ := dic_K I j.ex hy f2
        cases rx
        cases ry
        refine rcP_dicts s1 s2 h1 h2 (by omega) (fun _ => hitsK d2 r2 d1 r1 (allB_plain I j.ex (show X.A.units + 1 + 64 < cLine by omega) p1 p2)) _ _ ?_
        refine ⟨.bl _, H, I, rfl, ?_⟩
        have e1 : va.length = ks.length := by rw [← Paired.length r1, d1.len]
        have e2 : vb.length = ls.length := by rw [← Paired.length r2, d2.len]
        rw [e1, e2]
        rw [eqG] at kk
        exact kk
      · obtain ⟨a, kvs, va, rfl, d1, r1, s1, h1⟩ := dic_T I j.ex hx f1
        obtain ⟨b, lvs, vb, rfl, d2, r2, s2, h2⟩ := dic_T I j.ex hy f2
        cases rx
        cases ry
        refine rcH_eq s1 s2 h1 h2 (by omega) (fun _ => hitsT d2 r2 d1 r1 (allB_plain I j.ex (show X.A.units + 1 + 64 < cLine by omega) p1 p2)) _ _ ?_
        refine ⟨.bl _, H, I, rfl, ?_⟩
        have e1 : va.length = ks.length := by rw [← Paired.length r1, d1.len]
        have e2 : vb.length = ls.length := by rw [← Paired.length r2, d2.len]
        rw [e1, e2]
        rw [eqG] at kk
        exact kk
    | _ => exact hq.elim
  | _ => exact hq.elim
end
mutual
def flat : D → Bool
  | .non => true
  | .bl _ => true
  | .int _ => true
  | .str _ => true
  | .tup xs => flatL xs
  | _ => false
def flatL : List D → Bool
  | [] => true
  | x :: xs => flat x && flatL xs
end
mutual
theorem reads_flat {h : Heap} : ∀ (d : D) (v : Value) (as : List Addr), flat d = true → Reads h v d.py as → as = []
  | .non, _, _, _, r => by rw [D.py] at r; cases r; rfl
  | .bl _, _, _, _, r => by rw [D.py] at r; cases r; rfl
  | .int _, _, _, _, r => by rw [D.py] at r; cases r; rfl
  | .str _, _, _, _, r => by rw [D.py] at r; cases r; rfl
  | .tup xs, _, _, f, r => by
    rw [D.py] at r
    cases r with
    | tuple _ _ _ h => exact readsAll_flat xs _ _ (by simpa [flat] using f) h
theorem readsAll_flat {h : Heap} : ∀ (ds : List D) (vs : List Value) (as : List Addr), flatL ds = true → ReadsAll h vs (pyL ds) as → as = []
  | [], _, _, _, r => by rw [pyL] at r; cases r; rfl
  | x :: xs, _, _, f, r => by
    rw [pyL] at r
    have f' : flat x = true ∧ flatL xs = true := by simpa [flatL] using f
    cases r with
    | cons h1 h2 => rw [reads_flat x _ _ f'.1 h1, readsAll_flat xs _ _ f'.2 h2]; rfl
end
def kpy (ks : List (D × D)) : PyData := .dict (ks.map fun z => (z.1.py, z.2.py))
def wtK (ks : List (D × D)) : Nat := (ks.map fun z => D.wt z.1 + D.wt z.2 + 4).sum
structure RepK (ks : List (D × D)) : Prop where
  vp : ∀ z ∈ ks, plain z.2 = true ∧ flat z.2 = true
  kp : ∀ z ∈ ks, plain z.1 = true ∧ flat z.1 = true
  wt : wtK ks ≤ 15000000
  kk : (ks.all fun z => (dk1 z.1).isSome) = true ∨ (ks.all fun z => (dkT z.1).isSome) = true
def cReprD : FD := fun ds Q => match ds with
  | [.dic ks] => RepK ks ∧ Q (.str (kpy ks).shown)
  | _ => False
theorem shownKv_len : ∀ {ks : List (D × D)}, (∀ z ∈ ks, plain z.2 = true ∧ flat z.2 = true) → (∀ z ∈ ks, plain z.1 = true ∧ flat z.1 = true) → ((PyData.shownKv (ks.map fun z => (z.1.py, z.2.py))).map fun t => t.length + 2).sum ≤ wtK ks
  | [], _, _ => by simp [PyData.shownKv, wtK]
  | z :: ks, h1, h2 => by
    have ih := shownKv_len (ks := ks) (fun z m => h1 z (List.mem_cons_of_mem _ m)) fun z m => h2 z (List.mem_cons_of_mem _ m)
    have a := py_len z.1 (Bool.and_eq_true_iff.mp (h2 z List.mem_cons_self).1).1
    have b := py_len z.2 (Bool.and_eq_true_iff.mp (h1 z List.mem_cons_self).1).1
    rw [List.map_cons, PyData.shownKv, List.map_cons, List.sum_cons, strLen_append, strLen_append]
    have e2 : ((": " : String) : Str).length = 2 := rfl
    unfold wtK at ih ⊢
    rw [List.map_cons, List.sum_cons]
    omega
theorem kpy_len {ks : List (D × D)} (h : RepK ks) : (kpy ks).shown.length ≤ sizeLine := by
  have a := shownKv_len h.vp h.kp
  have b := h.wt
  unfold kpy
  rw [PyData.shown]
  unfold dictText
  rw [strLen_append, strLen_append]
  have c := join_up (PyData.shownKv (ks.map fun z => (z.1.py, z.2.py)))
  have e1 : (("{" : String) : Str).length = 1 := rfl
  have e2 : (("}" : String) : Str).length = 1 := rfl
  rw [sizeLine_eq]
  omega
theorem kpy_show {ks : List (D × D)} (h1 : ∀ z ∈ ks, plain z.2 = true ∧ flat z.2 = true) (h2 : ∀ z ∈ ks, plain z.1 = true ∧ flat z.1 = true) : PyData.showableKv (ks.map fun z => (z.1.py, z.2.py)) = true := by
  induction ks with
  | nil => rfl
  | cons z ks ih =>
    rw [List.map_cons, PyData.showableKv, py_show z.1 (Bool.and_eq_true_iff.mp (h2 z List.mem_cons_self).1).1, py_show z.2 (Bool.and_eq_true_iff.mp (h1 z List.mem_cons_self).1).1,
      ih (fun z m => h1 z (List.mem_cons_of_mem _ m)) fun z m => h2 z (List.mem_cons_of_mem _ m)]
    rfl
theorem pyL_fine : ∀ {ds : List D}, (∀ d ∈ ds, D.fine d = true ∧ flat d = true) → fineL ds = true ∧ flatL ds = true
  | [], _ => ⟨rfl, rfl⟩
  | d :: ds, h => by
    have a := h d List.mem_cons_self
    have b := pyL_fine fun x m => h x (List.mem_cons_of_mem _ m)
    rw [fineL, flatL, a.1, a.2, b.1, b.2]
    exact ⟨rfl, rfl⟩
theorem plain_dep {d : D} (h : plain d = true) : d.py.depth ≤ 64 := by
  have h1 := Bool.and_eq_true_iff.mp h
  have h2 := py_dep d h1.1
  have h3 : d.dep ≤ 64 := of_decide_eq_true h1.2
  omega
theorem depthKv_le : ∀ {ks : List (D × D)}, (∀ z ∈ ks, plain z.2 = true ∧ flat z.2 = true) → (∀ z ∈ ks, plain z.1 = true ∧ flat z.1 = true) → PyData.depthKv (ks.map fun z => (z.1.py, z.2.py)) ≤ 64
  | [], _, _ => by rw [List.map_nil, PyData.depthKv]; omega
  | z :: ks, h1, h2 => by
    have ih := depthKv_le (ks := ks) (fun z m => h1 z (List.mem_cons_of_mem _ m)) fun z m => h2 z (List.mem_cons_of_mem _ m)
    have a := plain_dep (h1 z List.mem_cons_self).1
    have b := plain_dep (h2 z List.mem_cons_self).1
    rw [List.map_cons, PyData.depthKv]
    omega
section
variable {X : Cx} {B : Bx} {pins : List (Addr × Obj)} {σ : L2.St} {H G : Hp} {s : Shared}
theorem reads_dict (I : Inv X pins σ H s) (e : Ex G H) {a : Addr} {o : Obj} {es : Array DictEntry} {ep : Nat} {ks : List (D × D)} {kx vx : List V} (ho : s.heap.get? a = some o) (hx : o.ExactDict) (hd : o.data = .dict es ep)
    (rk : Vals kx (es.toList.map (·.key))) (rv : Vals vx (es.toList.map (·.val))) (dk : Dats X.K B G kx (ks.map (·.1))) (dv : Dats X.K B G vx (ks.map (·.2))) (h : RepK ks) : Reads s.heap (.ref a) (kpy ks) [a] := by
  have f1 := pyL_fine (ds := ks.map (·.1)) fun d m => by
    obtain ⟨z, hz, rfl⟩ := List.mem_map.mp m
    exact ⟨(Bool.and_eq_true_iff.mp (h.kp z hz).1).1, (h.kp z hz).2⟩
  have f2 := pyL_fine (ds := ks.map (·.2)) fun d m => by
    obtain ⟨z, hz, rfl⟩ := List.mem_map.mp m
    exact ⟨(Bool.and_eq_true_iff.mp (h.vp z hz).1).1, (h.vp z hz).2⟩
  obtain ⟨as, r1⟩ := Dp.readsAll I _ _ _ (dats_dp e dk f1.1) rk
  obtain ⟨bs, r2⟩ := Dp.readsAll I _ _ _ (dats_dp e dv f2.1) rv
  have e1 := readsAll_flat _ _ _ f1.2 r1
  have e2 := readsAll_flat _ _ _ f2.2 r2
  subst e1 e2
  have q1 : pyL (ks.map (·.1)) = (ks.map fun z => (z.1.py, z.2.py)).map (·.1) := by rw [pyL_map, List.map_map, List.map_map]; rfl
  have q2 : pyL (ks.map (·.2)) = (ks.map fun z => (z.1.py, z.2.py)).map (·.2) := by rw [pyL_map, List.map_map, List.map_map]; rfl
  rw [q1] at r1
  rw [q2] at r2
  exact .dict ho hx.1 hd r1 r2
theorem datK_vals {K : PySem.W.Frag} : ∀ {kvs : List (Key × V)} {ks : List (D × D)}, DatK K B G kvs ks → Dats K B G (kvs.map (·.2)) (ks.map (·.2))
  | _, _, .nil => .nil
  | _, _, .consI h t => .cons h (datK_vals t)
  | _, _, .consS h t => .cons h (datK_vals t)
theorem datT_vals {K : PySem.W.Frag} : ∀ {kvs : List (List Key × V)} {ks : List (D × D)}, DatT K B G kvs ks → Dats K B G (kvs.map (·.2)) (ks.map (·.2))
  | _, _, .nil => .nil
  | _, _, .cons h t => .cons h (datT_vals t)
theorem call_reprDD (hg : X.A.guards = some []) (hu : X.A.units + 70 < cLine) : CallR X (.builtin "repr") (cLift X.K B cReprD) := by
  intro pins s σ H vs us P I rv h
  obtain ⟨G, ds, Q, j, hd, hq, k⟩ := h
  cases hd with
  | nil => exact hq.elim
  | cons h1 h2 =>
    cases h2 with
    | cons _ _ => cases h1 <;> exact hq.elim
    | nil =>
      obtain ⟨u, rfl, ru⟩ := vals1 rv
      have fin : ∀ {a : Addr} {ks : List (D × D)}, RepK ks → Q (.str (kpy ks).shown) → (a == sysModules) = false → Reads s.heap (.ref a) (kpy ks) [a] → wpAny (model X.prog X.w) X.A (call (.builtin "repr") [.ref a]) (EP X pins σ P) X.xe s := fun {a ks} rk q hs r => by
        have dep : (kpy ks).depth ≤ 65 := by
          unfold kpy
          rw [PyData.depth]
          have := depthKv_le rk.vp rk.kp
          omega
        refine repr_of_reads' r (by unfold kpy; rw [PyData.showable]; exact kpy_show rk.vp rk.kp) (fun _ m => ?_) hg (by omega) (fun _ _ e => e) (fun h' u tk hk => ⟨.str _, H, I.kept hk, ⟨_, rfl⟩, k _ _ G H q (Gr.refl j) (.str _)⟩) (kpy_len rk)
        rw [List.mem_singleton] at m
        subst m
        simp at hs
      cases h1 with
      | @dK a od kvs ks h3 h4 =>
        cases ru
        obtain ⟨rk, q⟩ := (show RepK ks ∧ Q (.str (kpy ks).shown) from hq)
        obtain ⟨hs, hgd, hx, es, ep, vs, hdt, hsz, kv, hm⟩ := I.frzK (j.ex _ _ h3)
        have hvl : kvs.length = vs.length := Paired.length kv
        obtain ⟨es2, ep2, ⟨o2, ho2, hx2, hd2⟩, hsz2, hk2⟩ := Heap.DictOf.raw hm.dictOf
        have at_ : ∀ (i : Nat) (k1 : Key) (v1 : V) (en : DictEntry), kvs[i]? = some (k1, v1) → es2[i]? = some en → RelV (kV k1) en.key ∧ RelV v1 en.val := fun i k1 v1 en e1 e2 => by
          obtain ⟨u, e3, ru⟩ := kv_get kv e1
          obtain ⟨hi, e4⟩ := Array.getElem?_eq_some_iff.mp e2
          have := hk2 i hi k1 u e3
          rw [e4] at this
          exact ⟨relV_key this.1, by rw [this.2]; exact ru⟩
        refine fin rk q hs (reads_dict I j.ex (kx := kvs.map fun p => kV p.1) (vx := kvs.map (·.2)) ho2 hx2 hd2 ?_ ?_ (datK_keys h4) (datK_vals h4) rk)
        · refine vals_of_get (by rw [List.length_map, List.length_map, hvl, ← hsz2]; exact (Array.length_toList).symm) fun i a b ha hb => ?_
          rw [List.getElem?_map] at ha hb
          obtain ⟨⟨k1, v1⟩, e1, rfl⟩ := Option.map_eq_some_iff.mp ha
          obtain ⟨en, e2, rfl⟩ := Option.map_eq_some_iff.mp hb
          rw [Array.getElem?_toList] at e2
          exact (at_ i k1 v1 en e1 e2).1
        · refine vals_of_get (by rw [List.length_map, List.length_map, hvl, ← hsz2]; exact (Array.length_toList).symm) fun i a b ha hb => ?_
          rw [List.getElem?_map] at ha hb
          obtain ⟨⟨k1, v1⟩, e1, rfl⟩ := Option.map_eq_some_iff.mp ha
          obtain ⟨en, e2, rfl⟩ := Option.map_eq_some_iff.mp hb
          rw [Array.getElem?_toList] at e2
          exact (at_ i k1 v1 en e1 e2).2
      | @dT a od kvs ks h3 h4 =>
        cases ru
        obtain ⟨rk, q⟩ := (show RepK ks ∧ Q (.str (kpy ks).shown) from hq)
        obtain ⟨hgd, z, hs, xs, pr, o', es, ep, ho, hx, hdt, he, _⟩ := I.hok a _ (j.ex _ _ h3)
        rw [hgd] at ho
        cases ho
        have hxl : kvs.length = xs.length := Paired.length pr
        have hel : es.size = xs.length := size_of_entries he
        have hkeys : es.toList.map (·.key) = (xs.map fun x => x.2.1).map Value.ref := by rw [he, List.map_map, List.map_map]; rfl
        obtain ⟨G2, g2, d2⟩ := Gr.tupKs j (qs := xs.map fun x => x.2.1) (kk := kvs.map (·.1)) (by rw [List.length_map, List.length_map]; exact hxl.symm) fun i q kk e1 e2 => by
          rw [List.getElem?_map] at e1 e2
          obtain ⟨⟨k1, v1⟩, e3, rfl⟩ := Option.map_eq_some_iff.mp e2
          obtain ⟨b, hb, r1, r2, r3⟩ := paired_get pr e3
          rw [hb] at e1
          cases e1
          exact r2
        rw [datT_keys h4] at d2
        refine fin rk q hs (reads_dict I g2.j.ex (kx := (xs.map fun x => x.2.1).map V.ref) (vx := kvs.map (·.2)) hgd hx hdt ?_ ?_ d2 ((datT_vals h4).mono g2.ex) rk)
        · rw [hkeys]
          exact vals_refs _
        · refine vals_of_get (by rw [List.length_map, List.length_map, hxl, ← hel]; exact (Array.length_toList).symm) fun i a b ha hb => ?_
          rw [List.getElem?_map] at ha hb
          obtain ⟨⟨k1, v1⟩, e1, rfl⟩ := Option.map_eq_some_iff.mp ha
          obtain ⟨en, e2, rfl⟩ := Option.map_eq_some_iff.mp hb
          obtain ⟨b, hb2, r1, r2, r3⟩ := paired_get pr e1
          rw [he, List.getElem?_map, hb2] at e2
          cases e2
          exact r3
      | _ => exact hq.elim
section
variable {Q : D → Prop} {ks ls : List (D × D)}
theorem z_eqDD : oEqD false (.dic ks) (.dic ls) Q = ((valsP ks = true ∧ valsP ls = true ∧ kfit ks ls = true) ∧ Q (.bl (eqG (.dic ks) (.dic ls)))) := propext Iff.rfl
theorem z_reprD : cReprD [.dic ks] Q = (RepK ks ∧ Q (.str (kpy ks).shown)) := propext Iff.rfl
end
end
end DL
namespace DL
open PySem PySem.Spec PyProof.Rows L2 Evl
def oEqA : O2 := fun x y Q => match x, y with
  | .dic ks, .dic ls => oEqD false (.dic ks) (.dic ls) Q
  | x, y => oEq x y Q
def cReprA : FD := fun ds Q => match ds with
  | [.dic ks] => cReprD [.dic ks] Q
  | ds => cRepr ds Q
section
variable {X : Cx} {B : Bx} {Q : D → Prop} {ks ls : List (D × D)} {xs : List D} {y : D}
theorem z_eqAd : oEqA (.dic ks) (.dic ls) Q = oEqD false (.dic ks) (.dic ls) Q := propext Iff.rfl
theorem z_eqAl : oEqA (.lst xs) y Q = oEq (.lst xs) y Q := propext Iff.rfl
theorem z_eqAt : oEqA (.tup xs) y Q = oEq (.tup xs) y Q := propext Iff.rfl
theorem z_eqAi {i : Int} : oEqA (.int i) y Q = oEq (.int i) y Q := propext Iff.rfl
theorem z_eqAs {i : Str} : oEqA (.str i) y Q = oEq (.str i) y Q := propext Iff.rfl
theorem z_eqAb {i : Bool} : oEqA (.bl i) y Q = oEq (.bl i) y Q := propext Iff.rfl
theorem z_eqAn : oEqA .non y Q = oEq .non y Q := propext Iff.rfl
theorem z_rpAd : cReprA [.dic ks] Q = cReprD [.dic ks] Q := propext Iff.rfl
theorem z_rpAl : cReprA [.lst xs] Q = cRepr [.lst xs] Q := propext Iff.rfl
theorem z_rpAt : cReprA [.tup xs] Q = cRepr [.tup xs] Q := propext Iff.rfl
theorem z_rpAi {i : Int} : cReprA [.int i] Q = cRepr [.int i] Q := propext Iff.rfl
theorem z_rpAs {i : Str} : cReprA [.str i] Q = cRepr [.str i] Q := propext Iff.rfl
theorem z_rpAb {i : Bool} : cReprA [.bl i] Q = cRepr [.bl i] Q := propext Iff.rfl
theorem z_rpAn : cReprA [.non] Q = cRepr [.non] Q := propext Iff.rfl
theorem op_eqA (hu : X.A.units + 66 < cLine) : OpR X (compareOp .Eq) (rLift X.K B oEqA) := by
  intro pins s σ H x y v u P I rx ry h
  obtain ⟨G, dx, dy, Q, j, hx, hy, hq, k⟩ := h
  by_cases e : ∃ ks ls, dx = .dic ks ∧ dy = .dic ls
  · obtain ⟨ks, ls, rfl, rfl⟩ := e
    exact op_eqDD hu pins s σ H x y v u P I rx ry ⟨G, _, _, Q, j, hx, hy, hq, k⟩
  · refine op_eq_d (by omega) pins s σ H x y v u P I rx ry ⟨G, dx, dy, Q, j, hx, hy, ?_, k⟩
    cases dx with
    | dic ks =>
      cases dy with
      | dic ls => exact absurd ⟨ks, ls, rfl, rfl⟩ e
      | _ => exact hq
    | _ => exact hq
theorem call_reprA (hg : X.A.guards = some []) (hu : X.A.units + 70 < cLine) : CallR X (.builtin "repr") (cLift X.K B cReprA) := by
  intro pins s σ H vs us P I rv h
  obtain ⟨G, ds, Q, j, hd, hq, k⟩ := h
  by_cases e : ∃ ks, ds = [.dic ks]
  · obtain ⟨ks, rfl⟩ := e
    exact call_reprDD hg hu pins s σ H vs us P I rv ⟨G, _, Q, j, hd, hq, k⟩
  · refine call_repr_d hg hu pins s σ H vs us P I rv ⟨G, ds, Q, j, hd, ?_, k⟩
    match ds, e, hq with
    | [.dic ks], e, _ => exact absurd ⟨ks, rfl⟩ e
    | [], _, h => exact h
    | [.non], _, h => exact h
    | [.bl _], _, h => exact h
    | [.int _], _, h => exact h
    | [.str _], _, h => exact h
    | [.lst _], _, h => exact h
    | [.tup _], _, h => exact h
    | [.ktup _], _, h => exact h
    | [.obj _ _], _, h => exact h
    | [.bag], _, h => exact h
    | a :: b :: c, _, h => cases a <;> exact h
end
end DL
namespace DL
open PySem PySem.Spec PyProof.Rows L2 Evl
end DL
namespace DL
open PySem PySem.Spec PyProof.Rows L2 Evl
section
variable {K : PySem.W.Frag} {B : Bx} {G H G2 H2 : Hp}
theorem OwnT.gr {v : List (List Key × V)} {o : List (D × OD)} {f : List Addr} (h : OwnT K B G H v o f) (g : Gr K B G H G2 H2) (hf : ∀ p ∈ f, B.nb p) : OwnT K B G2 H2 v o f := h.keep g.ex (g.kept fun p hp => ⟨(h.node p hp).at, hf p hp⟩)
end
end DL
namespace L2
open PySem PySem.Spec PyProof.Rows
end L2
namespace DL
open PySem PySem.Spec PyProof.Rows L2 Evl
end DL
namespace L2
open PySem PySem.Spec PyProof.Rows
end L2
namespace DL
open PySem PySem.Spec PyProof.Rows L2 Evl
inductive Prs (K : PySem.W.Frag) (B : Bx) (G H : Hp) : List Addr → List (List Key × V) → List (D × OD) → List Addr → Prop
  | nil : Prs K B G H [] [] [] []
  | cons {t b : Addr} {k : List Key} {v : V} {o : OD} {f g : List Addr} {ts : List Addr} {kvs : List (List Key × V)} {os : List (D × OD)} : H t = some (.tup [.ref b, v]) → H b = some (.tup (k.map kV)) → Own K B G H v o f → Prs K B G H ts kvs os g → Prs K B G H (t :: ts) ((k, v) :: kvs) ((embT k, o) :: os) (f ++ g)
abbrev OP := DS → (List (D × OD) → Prop) → Prop
section
variable {K : PySem.W.Frag} {B : Bx} {G H G2 H2 : Hp}
theorem Prs.own : ∀ {ts : List Addr} {kvs : List (List Key × V)} {os : List (D × OD)} {f : List Addr}, Prs K B G H ts kvs os f → OwnT K B G H kvs os f
  | _, _, _, _, .nil => .nil
  | _, _, _, _, .cons _ _ h t => .cons h t.own
theorem Prs.len : ∀ {ts : List Addr} {kvs : List (List Key × V)} {os : List (D × OD)} {f : List Addr}, Prs K B G H ts kvs os f → ts.length = os.length
  | _, _, _, _, .nil => rfl
  | _, _, _, _, .cons _ _ _ t => by rw [List.length_cons, List.length_cons, t.len]
theorem Prs.keep (e : Ex G G2) (hk : ∀ a o, H a = some (.tup o) → H2 a = some (.tup o)) : ∀ {ts : List Addr} {kvs : List (List Key × V)} {os : List (D × OD)} {f : List Addr}, Prs K B G H ts kvs os f → Kept G H G2 H2 f → Prs K B G2 H2 ts kvs os f
  | _, _, _, _, .nil, _ => .nil
  | _, _, _, _, .cons h1 h2 h t, k => .cons (hk _ _ h1) (hk _ _ h2) (h.keep e k.l) (Prs.keep e hk t k.r)
theorem Prs.append : ∀ {ts us : List Addr} {kvs lvs : List (List Key × V)} {os ps : List (D × OD)} {f g : List Addr}, Prs K B G H ts kvs os f → Prs K B G H us lvs ps g → Prs K B G H (ts ++ us) (kvs ++ lvs) (os ++ ps) (f ++ g)
  | _, _, _, _, _, _, _, _, .nil, h => h
  | _, _, _, _, _, _, _, _, .cons h1 h2 h t, h3 => by
    rw [List.append_assoc]
    exact .cons h1 h2 h (t.append h3)
theorem Jn.noTup (j : Jn K B G H) {a : Addr} {o : List V} (e : H a = some (.tup o)) : B.st a := by
  refine ⟨fun z => ?_, fun t h z => ?_⟩
  · obtain ⟨_, _, _, _, ho, _⟩ := j.bag
    rw [← z, e] at ho
    cases ho
  · obtain ⟨⟨ps, h1, _⟩, _⟩ := j.xt.tb t h
    rw [← z, e] at h1
    cases h1
theorem Gr.keepT (j : Jn K B G H) (g : Gr K B G H G2 H2) : ∀ a o, H a = some (.tup o) → H2 a = some (.tup o) := fun a o e => g.kp a _ (j.noTup e) e
theorem Prs.gr {ts : List Addr} {kvs : List (List Key × V)} {os : List (D × OD)} {f : List Addr} (j : Jn K B G H) (h : Prs K B G H ts kvs os f) (g : Gr K B G H G2 H2) (hf : ∀ p ∈ f, B.nb p) : Prs K B G2 H2 ts kvs os f := h.keep g.ex (g.keepT j) (g.kept fun p hp => ⟨(h.own.node p hp).at, hf p hp⟩)
end
end DL
namespace DL
open PySem PySem.Spec PyProof.Rows L2 Evl
def fRev (ra : DE) : DA := fun δ Q => ra δ fun x => match x with
  | .lst xs => Q xs.reverse
  | _ => False
section
variable {X : Cx} {B : Bx} {K : PySem.W.Frag} {G H : Hp} {e : Expr} {ra : DE} {pos : Pos}
theorem Dats.reverse : ∀ {v : List V} {d : List D}, Dats K B G v d → Dats K B G v.reverse d.reverse
  | _, _, .nil => .nil
  | _, _, .cons h t => by
    rw [List.reverse_cons, List.reverse_cons]
    exact (Dats.reverse t).append (.cons h .nil)
theorem pf_rev {k : Nat} {p1 p2 p3 : Pos} (ha : PD X B e ra) : PF X B (.Subscript e (.Slice none none (some (.UnaryOp .USub (.Constant (.int 1) k p1) p2)) p3) pos) (fRev ra) := pe_mono (pe_revL ha) fun σ H P q => by
  obtain ⟨H0, G, δ, Q, j, st, hr, k⟩ := q
  refine ⟨H0, G, δ, _, j, st, hr, fun x v G2 H2 q2 g2 h2 => ?_⟩
  cases h2 with
  | lst h4 h5 => exact ⟨_, _, rfl, sq_of (g2.j.ex _ _ h4), fun p hp => pf_new k g2 hp h5.reverse q2⟩
  | _ => exact q2.elim
end
section
variable {ra : DE} {δ : DS} {Q : List D → Prop} {r rb : OP} {QO : OD → Prop} {QP : List (D × OD) → Prop} {ri : DA} {g : DG} {tt : DT} {tk : DE} {tv : OE} {vs : List Nat} {xs : List D}
def revQ (x : D) (Q : List D → Prop) : Prop := match x with
  | .lst xs => Q xs.reverse
  | _ => False
theorem z_rev : fRev ra δ Q = ra δ fun x => revQ x Q := propext Iff.rfl
theorem z_revL : revQ (.lst xs) Q = Q xs.reverse := propext Iff.rfl
end
end DL
namespace DL
open PySem PySem.Spec PyProof.Rows L2 Evl
end DL
namespace DL
open PySem PySem.Spec PyProof.Rows L2 Evl
end DL
namespace L2
open PySem PySem.Spec PyProof.Rows
end L2
namespace DL
open PySem PySem.Spec PyProof.Rows L2 Evl
end DL
namespace DL
open PySem PySem.Spec PyProof.Rows L2 Evl
end DL
namespace DL
open PySem PySem.Spec PyProof.Rows L2 Evl
end DL
namespace DL
open PySem PySem.Spec PyProof.Rows L2 Evl
end DL
namespace DL
open PySem PySem.Spec PyProof.Rows L2 Evl
end DL
namespace DL
open PySem PySem.Spec PyProof.Rows L2 Evl
end DL
namespace L2
open PySem PySem.Spec PyProof.Rows
end L2
namespace DL
open PySem PySem.Spec PyProof.Rows L2 Evl PySem.W
def dDic0 : DE := fun _ Q => Q (.dic [])
section
variable {X : Cx} {B : Bx} {pos : Pos} {k v : Expr} {rk rv : DE}
theorem pd_dic0 : PD X B (.Dict [] [] pos) dDic0 := by
  refine pe_lockR pe_dnewK fun σ H P q p hp => ?_
  obtain ⟨H0, G, δ, Q, j, st, hr, k⟩ := q
  have g1 : Gr X.K B G H G (upd H p (.dK [])) := Gr.new0 j hp
  have nb : B.nb p := Gr.neB j hp
  have gp : G p = none := fresh_back j.ex hp
  refine ⟨p, _, upd_same, trivial, fun od => ?_⟩
  have g2 : Gr X.K B G H G (upd (upd H p (.dK [])) p (.frz od (.dK []))) := g1.own hp gp nb
  exact k _ _ _ _ hr (g2.frz hp gp nb upd_same) (.dK upd_same .nil)
end
section
variable {δ : DS} {Q : D → Prop} {rk rv : DE} {d y : D}
theorem z_dic0 : dDic0 δ Q = Q (.dic []) := propext Iff.rfl
end
end DL
namespace DL
open PySem PySem.Spec PyProof.Rows L2 Evl
end DL
namespace PySem.W
open PySem PySem.Spec PyProof.Rows
end PySem.W
namespace DL
open PySem PySem.Spec PyProof.Rows L2 Evl PySem.W
section
variable {Q : D → Prop} {ks ls : List (D × D)}
theorem z_neDD : oEqD true (.dic ks) (.dic ls) Q = ((valsP ks = true ∧ valsP ls = true ∧ kfit ks ls = true) ∧ Q (.bl (!eqG (.dic ks) (.dic ls)))) := propext Iff.rfl
end
end DL
namespace L2
open PySem PySem.Spec PyProof.Rows
end L2
namespace DL
open PySem PySem.Spec PyProof.Rows L2 Evl
end DL
namespace L2
open PySem PySem.Spec PyProof.Rows
section
variable {X : Cx} {e a b : Expr} {t t' ta tb te : TE} {pos : Pos}
theorem PSsT.nox {st : List Stmt} {t : TS} (h : PSsT X.nox st t) : PSsT X st t := fun pins s σ H D h0 I hw =>
  wpAny_mono (h pins s σ H D h0 (I.wish _) hw) (fun _ _ q => q.unwish) fun _ _ z => False.elim z
end
end L2
namespace DL
open PySem PySem.Spec PyProof.Rows L2 Evl
end DL
namespace DL
open PySem PySem.Spec PyProof.Rows L2 Evl
end DL
namespace DL
open PySem PySem.Spec PyProof.Rows L2 LamX NdefX
section
variable {prog : Program} {w : World} {A : Around} {E : Value → Shared → Prop} {h : Heap} {g : Array GenState} {d : Drawn} {t : Nat} {os : OsState}
variable {nm q : Str} {C N : Addr} {bs bm : List Value} {hdct : Bool} {sn : List Str} {sub : List Value} {ab : Bool} {col : Option Bool} {dd : Option Addr} {k0 k1 k2 k3 k5 : Option Value}
theorem call_mw {u e t0 : Addr} {rest : List Value} {Q : Value → Shared → Prop}
    (hC : h.get? C = some (excClassObj nm q C N bs bm hdct sn sub ab col dd k0 k1 k2 k3 k5 "ValueError.__new__")) (he : h.get? e = some (PySem.W.excObj C t0 none .none)) (hu : h.get? u = some (PySem.W.kxs_mw "ValueError.__init__" e)) (hrest : rest.length ≤ sizeLine)
    (hq : ∀ h' t1, (∀ b o, b ≠ e → h.get? b = some o → h'.get? b = some o) → h'.get? e = some (PySem.W.excObj C t1 none .none) → Q .none ⟨h', g, d, t, os⟩) :
    wpAny (model prog w) A (call (.ref u) rest) Q E ⟨h, g, d, t, os⟩ := by
  refine wpAny_call (codeAny_of_tree ?_)
  show wpAny _ A.in1 (callAny (.ref u) ⟨rest, []⟩) _ _ _
  simp only [callAny]
  refine wpAny_bind (wpAny_load hu ?_)
  simp only [PySem.W.kxs_mw, show (Value.type "method-wrapper" == Value.type "method" || Value.type "method-wrapper" == Value.type "builtin_function_or_method" || Value.type "method-wrapper" == Value.type "method-wrapper") = true by decide, if_true]
  refine PySem.W.KFB.if_so (by decide) ?_
  refine wpAny_bind (PySem.W.check_bound_init F.excBase_ValueError.toExcCallFacts hC he rfl ?_)
  refine wpAny_bind (wpAny_pure (wpAny_pure ?_))
  refine ⟨plainId_quiet F.excBase_ValueError.init.plain _, codeAny_builtin F.excBase_ValueError.initEntry ?_⟩
  exact PySem.W.exc_init_tree (cls := .ref C) (t0 := t0) (dv := none) (c2 := .none) (c3 := .none) (b4 := .bool false) he hrest fun h' k e' _ => hq h' _ k e'
end
/-- the promise of such an __init__ -/
def spEI (C : Addr) (fld : Str) : Sp := fun vs H Q _ => ∃ (a : Addr) (y : V), vs = [.ref a, y] ∧ H a = some (exo a C none) ∧ ∀ dx, H dx = none → dx ≠ a → Q .non (upd (upd H dx (exd dx [(fld, y)])) a (exo a C (some dx)))
/-- what the written part says of it -/
structure XIn (P : Program) (K : PySem.W.Frag) (mg : Str → Option Value) (C f cc cda : Addr) (fld : Str) : Prop where
  oex : OexC K C
  cell : ∃ cl cld csl, K.lookup cc = some ⟨cl, cld, .cell (some (.ref C)), csl⟩
  code : ∃ ccl cdd vs ccs file tf, K.lookup cda = some ⟨ccl, cdd, .fields vs, ccs⟩ ∧ vs[2]? = some (.str file tf) ∧ ((P.main.file : Str) == file) = true
  cls : ∃ cd, PySem.W.clsIn K C = some cd
  sub : PySem.W.mroIn K C (.ref C) = some true
  sup : mg "super" = none
  ini : PySem.W.ks_superIn K C C "__init__" = some (some (.builtin "ValueError.__init__"))
  subV : PySem.W.subIn K (.ref C) (.type "ValueError") = some true
  any : PySem.W.nsIn K cStatics "thirdparty.any" = some none
  nofld : PySem.W.findIn K (.ref C) fld = some none
  top : (P.main.scope.names.lookup ("super" : Str)).isSome = false
theorem exinit_ok {P : Program} {w : World} {K : PySem.W.Frag} {mg : Str → Option Value} {base : Heap} {CX : CXT} {k : Nat} {C f cc cda : Addr} {name qual fld par msg : Str} {params : Arguments} {scope : Scope} {dV kV doc pm ct oc : Value} {an od : Option Addr} {osl : Array (Option Value)} {ar : Arg}
    {p0 p1 p2 p3 p4 p5 p6 p7 p8 p9 : Pos} {j : Nat} (XI : XIn P K mg C f cc cda fld)
    (lk : K.lookup f = some ⟨oc, od, .func (PySem.W.ksFn name qual params
      [.Expr (.Call (.Attribute (.Call (.Name "super" p0) [] [] p1) "__init__" p2) [.Constant (.str msg) j p3] [] p4) p5, .Assign [.Attribute (.Name "self" p6) fld p7] (.Name par p8) p9] scope dV kV doc pm an (.ref cda) ct cc), osl⟩)
    (hcd : PySem.W.codeIn K (.ref cda) qual = true) (S : NScope ["self", par, "__class__"] ["self", par] ["__class__"] scope)
    (hp : (params.posonlyargs ++ params.args).head? = some ar) (har : ar.arg = "self") (hks : scope.names.lookup ("super" : Str) = some .globalImplicit) (hpd : (par == ("__debug__" : Str)) = false) (hpc : (par == ("__classdict__" : Str)) = false) (hps : par ≠ "self") {pl : Sem Bool}
    (he : ∀ L, eval (.Call (.Attribute (.Call (.Name "super" p0) [] [] p1) "__init__" p2) [.Constant (.str msg) j p3] [] p4) (PySem.W.ksEnv qual scope L f (.ref cda) cc) = (do
      let ov ← attributeBase (.Call (.Name "super" p0) [] [] p1) "__init__" (PySem.W.ksEnv qual scope L f (.ref cda) cc) (eval (.Call (.Name "super" p0) [] [] p1) (PySem.W.ksEnv qual scope L f (.ref cda) cc))
      standAt p2.atName
      let (fv, first) ← holding [ov] (getMethod ov "__init__" pl)
      callWith p4 fv first (backTo p4 (starEach [.Constant (.str msg) j p3] (PySem.W.ksEnv qual scope L f (.ref cda) cc))) []))
    (hs0 : ∀ L, swapsWith (.Call (.Attribute (.Call (.Name "super" p0) [] [] p1) "__init__" p2) [.Constant (.str msg) j p3] [] p4) none p5.line (PySem.W.ksEnv qual scope L f (.ref cda) cc) = pure false)
    (hs1 : ∀ L, swapsWith (.Name par p8) (some (.Attribute (.Name "self" p6) fld p7)) p9.line (PySem.W.ksEnv qual scope L f (.ref cda) cc) = pure false) :
    FnOk P w K mg base CX (k + 1) f (PySem.W.ksFn name qual params
      [.Expr (.Call (.Attribute (.Call (.Name "super" p0) [] [] p1) "__init__" p2) [.Constant (.str msg) j p3] [] p4) p5, .Assign [.Attribute (.Name "self" p6) fld p7] (.Name par p8) p9] scope dV kV doc pm an (.ref cda) ct cc) ["self", par] (spEI C fld) := by
  refine ⟨fun vs H Q E ⟨a, y, e, _⟩ => by rw [e]; rfl, fun A fr s H args us vs Q E hr e0 hb rel hsp => ?_⟩
  obtain ⟨a, y, rfl, ea, hq⟩ := hsp
  have inK : K.In s.heap := e0.mod.kin.keeps fun b o z => (e0.bs b o z).1
  have lim : s.heap.NoLimit := e0.mod.nolimit.keeps fun b o z => (e0.bs b o z).1
  obtain ⟨cl, cld, csl, hcell⟩ := XI.cell
  obtain ⟨ccl, cdd, cvs, ccs, file, tf, hcode, hvs, hfile⟩ := XI.code
  obtain ⟨cdC, hclC⟩ := XI.cls
  have hcb : base.get? cc = some ⟨cl, cld, .cell (some (.ref C)), csl⟩ := e0.mod.kin _ _ hcell
  have Cl : CellsAt [("__class__", cc)] ["__class__"] [none] s.heap H := {
    len := rfl
    all := fun z c hz => by
      have : c = cc := by
        simp only [List.lookup] at hz
        split at hz
        · cases hz; rfl
        · cases hz
      subst this
      exact ⟨(e0.bs _ _ hcb).2, some (.ref C), _, (e0.bs _ _ hcb).1, rfl⟩
    inj := fun z1 z2 c h1 h2 => by
      simp only [List.lookup] at h1 h2
      split at h1
      · rename_i a1
        split at h2
        · rename_i a2
          simp_all
        · cases h2
      · cases h1
    has := fun i z hz => by
      cases i with
      | zero => cases hz; exact ⟨cc, by simp [List.lookup], fun v hv => by cases hv⟩
      | succ i => cases hz }
  refine PySem.ks_codeAny_call_defAt hr.depth (inK _ _ lk) rfl lim (PySem.W.codeRec_of inK hcd) rfl hb S.nocell (fun ⟨n, _⟩ hy => S.par n (List.of_mem_zip hy).1) (fun h₁ hns kp => ?_) S.co S.gen S.kind
  have u12 : ∃ u, us = [.ref a, u] ∧ RelV y u := by
    cases rel with
    | cons h1 h2 =>
      cases h2 with
      | cons h3 h4 =>
        cases h4
        cases h1
        exact ⟨_, rfl, h3⟩
  obtain ⟨u, rfl, ry⟩ := u12
  have I : Inv (ncx CX P w K mg base ["self", par, "__class__"] ⟨name, qual, params, _, scope, [("__class__", cc)], cda⟩ f A fr s H E) [] (startF ["self", par, "__class__"] [.ref a, y] [none]) H { s with heap := h₁, toks := s.toks + ((["self", par] : List Str).zip [Value.ref a, u]).length } :=
    inv_startN (F := ⟨name, qual, params, [.Expr (.Call (.Attribute (.Call (.Name "super" p0) [] [] p1) "__init__" p2) [.Constant (.str msg) j p3] [] p4) p5, .Assign [.Attribute (.Name "self" p6) fld p7] (.Name par p8) p9], scope, [("__class__", cc)], cda⟩) S hr.hd e0 rfl rel Cl hns kp
  have XK : K.In h₁ := I.kIn
  obtain ⟨t0, hx⟩ := exo_at I.hok ea
  generalize hL : s.heap.objs.size = L at *
  have hi : interactive (PySem.W.ksEnv qual scope L f (.ref cda) cc) = false := by
    have z : scope.kind = .function := S.kind
    show (scope.kind == .module && _) = false
    rw [z]
    rfl
  refine PySem.ks_wpAt_execs_cons (PySem.ks_wpAt_Expr_any (PySem.ks_wpAt_MethodCall (pl := pl) ?_ (he L)) hi (hs0 L))
  have kindS : (PySem.W.ksEnv qual scope L f (.ref cda) cc).kindOf "super" = some .globalImplicit := hks
  have kindC : (PySem.W.ksEnv qual scope L f (.ref cda) cc).kindOf "__class__" = some .free := S.frk _ List.mem_cons_self
  have kindSelf : (PySem.W.ksEnv qual scope L f (.ref cda) cc).kindOf "self" = some .local := S.par _ List.mem_cons_self
  obtain ⟨mb, hb1, hb2⟩ := e0.mod.blt
  have sup : bootBuiltins "super" = some (.type "super") := PyProof.Rows.Boot.«super»
  refine PySem.ks_wpAt_super_base (ar := ar) kindS kindC (by decide) rfl (XK _ _ lk) rfl hp rfl (XK _ _ hcode) rfl hvs hfile XI.top ?_
  refine PySem.W.ks_loadName_global S.kind kindS ?_
  have bk : ∀ b o, base.get? b = some o → h₁.get? b = some o := fun b o z => kp b o (e0.bs b o z).1
  refine PySem.Calls.loadGlobal_builtin (mg := mg) (mb := mb) (e0.mod.glob.keeps bk) XI.sup (hb1.keeps bk) ((hb2 _ (by decide)).trans sup) ⟨rfl, ?_⟩
  refine wpAny_loadName_free S.kind kindC rfl ⟨_, XK _ _ hcell, rfl⟩ ?_
  rw [har]
  have hself : List.lookup ("self" : Str) (([(("self" : Str), Value.ref a), (par, u)] : List (Str × Value)).reverse) = some (Value.ref a) := by
    show List.lookup ("self" : Str) [(par, u), (("self" : Str), Value.ref a)] = _
    rw [List.lookup_cons, beq_eq_false_iff_ne.mpr (Ne.symm hps)]
    simp [List.lookup]
  refine wpAny_loadName_local S.kind kindSelf hns hself ?_
  obtain ⟨oD, hD1, hD2⟩ : ∃ oD, h₁.get? C = some oD ∧ oD.data = .cls cdC := by
    have hD := hclC
    unfold PySem.W.clsIn at hD
    split at hD
    · rename_i c d cd' sl ho
      cases hD
      exact ⟨_, XK _ _ ho, rfl⟩
    · cases hD
  refine PySem.ks_wpAny_isType_cls hD1 hD2 ⟨rfl, ?_⟩
  refine PySem.ks_wpAny_call_super hD1 hD2 hx rfl (fun c e => by cases e) (PySem.W.looks_mroIn XK XI.sub) (fun h2 hso k2 => ?_)
  have XK2 : K.In h2 := fun b o z => k2 _ _ (XK b o z)
  have hx2 := k2 _ _ hx
  have inst : PySem.W.InstAt h2 a _ C none := ⟨hx2, rfl, rfl, trivial⟩
  have hini := XI.ini
  unfold PySem.W.ks_superIn at hini
  rw [hclC] at hini
  refine PySem.W.kxs_getMethod PySem.W.kxs_ValueError hso (PySem.W.looks_opaque XK2 XI.any) (l₀ := cdC.mro) (fun A Q E s k q => wpAny_bind ((PySem.W.looks_clsIn XK2 hclC) A _ E s k (wpAny_pure q))) rfl XK2 hini (inst.type.andThen (PySem.W.looks_subIn XK2 XI.subV)) (PySem.W.ks_ne XK2 inst hclC) (by decide) ?_
  refine PySem.W.kxs_callWith (i := "ValueError.__init__") (x := a) rfl ?_
  show wpAny _ _ (evalArgs (.ref h2.objs.size) true ((false, eval (.Constant (.str msg) j p3) (PySem.W.ksEnv qual scope L f (.ref cda) cc)) :: []) []) _ _ _
  refine PySem.Calls.evalArgs_plain ?_
  refine PySem.Calls.spliced_cons ?_
  refine PySem.Calls.Constant_str (pos := p3) ?_
  refine PySem.Calls.spliced_nil ⟨Heap.get?_push_size _ rfl, ?_⟩
  obtain ⟨cnm, cq, cN, cbs, cbm, csn, csub, cab, ccol, cdd2, ck0, ck1, ck2, ck3, ck5, hC, hbm⟩ := XI.oex.cls
  have k4 : ∀ b o, h₁.get? b = some o → (h2.push (PySem.W.kxs_mw "ValueError.__init__" a)).get? b = some o := fun b o z => Heap.get?_push_of_some _ (k2 _ _ z)
  refine call_mw (k4 _ _ (XK _ _ hC)) (k4 _ _ hx) (Heap.get?_push_size _ rfl) (by rw [sizeLine_eq]; show 1 ≤ 16777216; omega) (fun h3 t1 k3 hx3 => ?_)
  refine wpAt_of_wpAny ?_
  have J0 := I.kept (t' := s.toks) k4
  have J1 := J0.write (t' := s.toks) (x := a) (e := a) (o := exo a C none) (h' := h3) (by rw [ea]; exact True.intro) (.inl rfl) k3 ⟨_, hx3⟩ (exo_ok hx3)
  have eu : upd H a (exo a C none) = H := by
    funext b
    by_cases hb : b = a
    · rw [hb, upd_same, ea]
    · rw [upd_ne hb]
  rw [eu] at J1
  subst hL
  have st := pss_one (ps_ost (X := ncx CX P w K mg base ["self", par, "__class__"] ⟨name, qual, params, [.Expr (.Call (.Attribute (.Call (.Name "super" p0) [] [] p1) "__init__" p2) [.Constant (.str msg) j p3] [] p4) p5, .Assign [.Attribute (.Name "self" p6) fld p7] (.Name par p8) p9], scope, [("__class__", cc)], cda⟩ f A fr s H E)
    (f := fld) (p' := p7) (pos := p9) (pe_var (i := 0) (x := "self") (pos := p6) rfl (.inl kindSelf)) (pe_var (i := 1) (x := par) (pos := p8) rfl (.inl (S.par _ (by simp))) hpd hpc) (hs1 _))
  refine wpAny_mono (st.run [] _ _ H { nx := fun _ H' => Q .non H', rt := Q } (J1.tok _) ⟨y, rfl, .ref a, rfl, a, C, rfl, XI.oex, XI.nofld, .inl ⟨ea, fun dx n ne => hq dx n ne⟩⟩) (fun fl s' hs => ?_) (fun e s' hs => hs)
  cases fl with
  | ret v =>
    obtain ⟨v, σ', H', J, rv, q⟩ := hs
    exact ⟨v, H', J.os, J.bare, J.base, J.hok, rv, q⟩
  | next =>
    obtain ⟨σ', H', J, q⟩ := hs
    exact ⟨V.non, H', J.os, J.bare, J.base, J.hok, rfl, q⟩
  | brk =>
    obtain ⟨_, _, _, q⟩ := hs
    exact False.elim q
  | cont =>
    obtain ⟨_, _, _, q⟩ := hs
    exact False.elim q
end DL
namespace DL
open PySem PySem.Spec PyProof.Rows L2 Evl
/-- the wish about exceptions: the class's number, the field's name, what it holds -/
abbrev XW := Nat → Str → D → Prop
def XL (K : PySem.W.Frag) (B : Bx) (Wx : XW) : XK := fun cls d H' => ∃ (G' : Hp) (c : Nat) (f : Str) (y : D) (v : V) (dd : Addr), Wx c f y ∧ Jn K B G' H' ∧ cls = .ref (B.ct c) ∧ d = some dd ∧ H' dd = some (.xd [(f, v)]) ∧ Dat K B G' v y
/-- the context takes these -/
def TkX (X : Cx) (B : Bx) (Wx : XW) : Prop := ∃ W : WX, Takes X W ∧ ∀ cls d σ H, XL X.K B Wx cls d H → W cls d σ H
theorem passX {X : Cx} {B : Bx} {Wx : XW} (tk : TkX X B Wx) : Passes (L2.CX X.prog X.w) X (XL X.K B Wx) := by
  obtain ⟨W, t, h⟩ := tk
  exact passes_call t h
def spX (K : PySem.W.Frag) (B : Bx) (Wx : XW) (S : FD) : Sp := fun vs H P E => cLift K B S vs H P ∧ ∀ cls d H', XL K B Wx cls d H' → E cls d H'
theorem XL.imp {K : PySem.W.Frag} {B : Bx} {Wx W2 : XW} (h : ∀ c f y, Wx c f y → W2 c f y) {cls : Value} {d : Option Addr} {H : Hp} (x : XL K B Wx cls d H) : XL K B W2 cls d H := by
  obtain ⟨G', c, f, y, v, dd, a, b⟩ := x
  exact ⟨G', c, f, y, v, dd, h _ _ _ a, b⟩
section
variable {X : Cx} {B : Bx} {Wx : XW} {e o : Expr} {es : List Expr} {r : DE} {pos : Pos} {C k k' i : Nat} {S : FD} {ra : DA} {f m : Str} {g : Addr}
theorem pd_methX {pl : Sem Bool} {apos : Pos} (tk : TkX X B Wx) (c : SlX.SCls X.K (B.ct C)) (hm : Meth X.K (B.ct C) m g) (F : FnR X.prog X.w X.K X.mg X.base (L2.CX X.prog X.w) k g (spX X.K B Wx S)) (hr : Room k X.A) (he : PD X B o r) (ha : PAD X B (e :: es) ra)
    (hst : starEach (e :: es) X.env = (false, eval e X.env) :: starEach es X.env := by rfl) (hpl : (backTo pos (starEach es X.env)).any (·.1) = false := by rfl)
    (ht : eval (.Call (.Attribute o m apos) (e :: es) [] pos) X.env = (do let ov ← eval o X.env; standAt apos.atName; let (f, first) ← holding [ov] (getMethod ov m pl); callWith pos f first (backTo pos (starEach (e :: es) X.env)) (backToKw pos (keywordEach [] X.env))) := by rfl) :
    PD X B (.Call (.Attribute o m apos) (e :: es) [] pos) (dMeth C S r ra) := pe_mono (SlX.pe_methSl (E := XL X.K B Wx) he c hm F hr (passX tk) ha hst hpl ht) fun σ H P q => by
  obtain ⟨H0, G, δ, Q, j, st, hr, k⟩ := q
  refine ⟨H0, G, δ, _, j, st, hr, fun d v G2 H2 q2 g2 h2 => ?_⟩
  obtain ⟨ho, q2⟩ := q2
  cases h2 with
  | @obj a dx C' vs fs h3 h4 h5 =>
    have ho : C' = C := ho
    subst ho
    refine ⟨a, dx, vs.map some, rfl, obj_slt (K := X.K) (B := B) g2.j.ex h3 h4, H0, G2, δ, _, g2.j, st.gr g2, q2, fun ds ws G3 H3 q3 g3 h6 => ?_⟩
    exact ⟨⟨G3, _, Q, g3.j, .cons ((Dat.obj h3 h4 h5).mono g3.ex) h6, q3, fun d v G4 H4 q4 g4 h7 => k d v G4 H4 q4 ((g2.trans g3).trans g4) h7⟩, fun _ _ _ h => h⟩
  | _ => exact ho.elim
/-- raise C(e) -/
def dRaise (Wx : XW) (c : Nat) (f : Str) (r : DE) : DTS := fun _ δ => r δ fun d => Wx c f d
theorem psd_raise {x fld : Str} {fI : Addr} {fd : FuncData} {ps : List Str} {p : Pos} {pos2 : Pos} (hc : X.calm = true) (tk : TkX X B Wx) (T : OexC X.K (B.ct C)) (iC : PySem.W.findIn X.K (.ref (B.ct C)) "__init__" = some (some (.ref fI))) (tI : PySem.W.typeIn X.K (.ref fI) = some (.type "function"))
    (F1 : FnOk X.prog X.w X.K X.mg X.base CX0 k fI fd ps (spEI (B.ct C) fld)) (hb : Binds X.K fd ps []) (hr : Room (k + 1) X.A) (hg : Gl X x) (hm : X.mg x = some (.ref (B.ct C))) (he : PD X B e r) (hz : starEach [] X.env = [] := by rfl)
    (hdb : (x == ("__debug__" : Str)) = false := by decide) (hst : starEach [e] X.env = (false, eval e X.env) :: starEach [] X.env := by rfl) (hpl : (backTo pos (starEach [] X.env)).any (·.1) = false := by rfl) :
    PSD X B (.Raise (some (.Call (.Name x p) [e] [] pos)) none pos2) (dRaise Wx C fld r) := by
  obtain ⟨W, t, hW⟩ := tk
  refine ps_mono (ps_raise hc t (pmk_oex T iC tI F1 hr hb .nil pass0 hg hm (pa_cons he pa_nil hst) hdb hst hpl)) fun E σ H q => ?_
  obtain ⟨G0, H0, G, δ, Wd, g0, st, h, kk⟩ := q
  refine ⟨H0, G, δ, _, g0.j, st, h, fun d v G2 H2 q2 g2 h2 => ?_⟩
  show [v].length ≤ 1000 ∧ _
  refine ⟨by show 1 ≤ 1000; omega, fun a ha => ⟨a, v, rfl, upd_same, fun dx hdx ne => ⟨rfl, dx, [(fld, v)], upd_same, by rw [upd_ne ne, upd_same], ?_, ?_⟩⟩⟩
  · rw [upd_ne ne] at hdx
    exact hdx
  · rw [upd_ne ne] at hdx
    refine hW _ _ _ _ ?_
    have eh : upd (del (upd (upd (upd H2 a (exo a (B.ct C) none)) dx (exd dx [(fld, v)])) a (exo a (B.ct C) (some dx))) a) dx (.xd [(fld, v)]) = upd H2 dx (.xd [(fld, v)]) := by
      funext b
      by_cases h1 : b = dx
      · subst h1; rw [upd_same, upd_same]
      · rw [upd_ne h1, upd_ne h1]
        by_cases h3 : b = a
        · subst h3; rw [del_same, ha]
        · rw [del_ne h3, upd_ne h3, upd_ne h1, upd_ne h3]
    rw [eh]
    exact ⟨G2, C, fld, d, v, dx, q2, (Gr.new0 g2.j hdx).j, rfl, rfl, upd_same, h2⟩
end
section
variable {P : Program} {w : World} {K : PySem.W.Frag} {mg : Str → Option Value} {base : Heap}
theorem fn_dX {x qual : Str} {st : Stmt} {f : Addr} {fd : FuncData} {N ps : List Str} {k : Nat} {B : Bx} {Wx : XW} {S : FD} {t : DTS} (F : Fun K x qual st f fd) (Sc : FnScope N ps (defScope st)) (len : ∀ ds Q, S ds Q → ds.length = ps.length)
    (hbody : ∀ (cdv : Value) (A : Around) (outer : List Env) (s : Shared) (H : Hp) (E : XK), Room k (A.deeper (envOfC qual (defScope st) s.heap.objs.size f cdv)) → TkX (cxOf (L2.CX P w) P w K mg base N qual (defScope st) f cdv A outer s H E) B Wx →
      PSsD (cxOf (L2.CX P w) P w K mg base N qual (defScope st) f cdv A outer s H E) B (defBody st) t)
    (vc : ∀ ds Q, S ds Q → t { nx := fun _ => Q .non, rt := Q } (startD N.length ds)) : FnOk P w K mg base (L2.CX P w) (k + 1) f fd ps (spX K B Wx S) := by
  refine F.okX Sc (fun vs H Q E h => ?_) (fun cdv A outer s H vs Q E hr h => ⟨_, hbody cdv A outer s H E hr ⟨_, takes_of (E := E) rfl rfl rfl rfl, fun cls d σ H' z => h.2 cls d H' z⟩, ?_⟩)
  · obtain ⟨⟨G, ds, R, j, hd, hs, _⟩, _⟩ := h
    rw [hd.len]
    exact len ds R hs
  · obtain ⟨⟨G, ds, R, j, hd, hs, kk⟩, _⟩ := h
    refine ⟨G, H, G, startD N.length ds, _, Gr.refl j, start_ok hd, vc ds R hs, ⟨?_, ?_, ?_, ?_, ?_⟩⟩
    · exact fun σ δ G2 H2 q g _ s2 => kk .non .non G2 H2 q g .non
    · exact fun σ δ G2 H2 q g _ s2 => q.elim
    · exact fun σ δ G2 H2 q g _ s2 => q.elim
    · exact fun d v G2 H2 q g _ hd => kk d v G2 H2 q g hd
    · exact fun o v f G2 H2 q => q.elim
end
end DL
namespace DL
open PySem PySem.Spec PyProof.Rows L2 Evl
def spIX (K : PySem.W.Frag) (B : Bx) (C : Nat) (Wx : XW) (S : FI) : Sp := fun vs H P E => spI K B C S vs H P E ∧ ∀ cls d H', XL K B Wx cls d H' → E cls d H'
section
variable {P : Program} {w : World} {K : PySem.W.Frag} {mg : Str → Option Value} {base : Heap}
theorem fn_initX {x qual : Str} {st : Stmt} {f : Addr} {fd : FuncData} {N ps : List Str} {k : Nat} {B : Bx} {C : Nat} {Wx : XW} {S : FI} {t : DTS} (F : Fun K x qual st f fd) (Sc : FnScope N ps (defScope st)) (len : ∀ ds Q, S ds Q → ds.length + 1 = ps.length) (hN : 1 ≤ N.length)
    (hbody : ∀ (cdv : Value) (A : Around) (outer : List Env) (s : Shared) (H : Hp) (E : XK), Room k (A.deeper (envOfC qual (defScope st) s.heap.objs.size f cdv)) → TkX (cxOf (L2.CX P w) P w K mg base N qual (defScope st) f cdv A outer s H E) B Wx →
      PSsD (cxOf (L2.CX P w) P w K mg base N qual (defScope st) f cdv A outer s H E) B (defBody st) t)
    (vc : ∀ x ds Q, S ds Q → t (endI x C Q) (startI N.length x C ds)) : FnOk P w K mg base (L2.CX P w) (k + 1) f fd ps (spIX K B C Wx S) := by
  refine F.okX Sc (fun vs H Q E h => ?_) (fun cdv A outer s H vs Q E hr h => ⟨_, hbody cdv A outer s H E hr ⟨_, takes_of (E := E) rfl rfl rfl rfl, fun cls d σ H' z => h.2 cls d H' z⟩, init_lift hN vc h.1⟩)
  obtain ⟨⟨x, dx, ws, G, ds, R, rfl, _, _, _, _, _, _, _, _, hd, hs, _⟩, _⟩ := h
  rw [List.length_cons, hd.len]
  exact len ds R hs
end
section
variable {X : Cx} {B : Bx} {Wx : XW} {e : Expr} {es : List Expr} {pos : Pos} {g : Addr} {k C : Nat} {x : Str} {ra : DA} {S : FI}
theorem pd_makeX {fp : Pos} (tk : TkX X B Wx) (M : Mk X.K (B.ct C) g) (F : FnR X.prog X.w X.K X.mg X.base (L2.CX X.prog X.w) k g (spIX X.K B C Wx S)) (hr : Room (k + 1) X.A) (hg : Gl X x) (hm : X.mg x = some (.ref (B.ct C))) (ha : PAD X B (e :: es) ra) (hdb : (x == ("__debug__" : Str)) = false := by decide)
    (he : starEach (e :: es) X.env = (false, eval e X.env) :: starEach es X.env := by rfl) (hpl : (backTo pos (starEach es X.env)).any (·.1) = false := by rfl) : PD X B (.Call (.Name x fp) (e :: es) [] pos) (dMake C S ra) := pe_mono (StX.pe_makeR (E := XL X.K B Wx) M F hr hg hm (passX tk) ha hdb he hpl) fun σ H P q => by
  obtain ⟨H0, G, δ, Q, j, st, hr, k⟩ := q
  refine ⟨H0, G, δ, _, j, st, hr, fun ds vs G2 H2 q2 g2 h2 y dx hy hdx ne => ?_⟩
  have gy : G2 y = none := fresh_back g2.j.ex hy
  have gd : G2 dx = none := fresh_back g2.j.ex hdx
  have j1 : Jn X.K B G2 (upd (upd H2 dx (.own y)) y (.ins (B.ct C) dx [])) := by
    have a := Gr.new0 (o := .own y) g2.j hdx
    exact (Gr.new0 (o := .ins (B.ct C) dx []) a.j (by rw [upd_ne (Ne.symm ne)]; exact hy)).j
  have eh : hid2 (upd (upd H2 dx (.own y)) y (.ins (B.ct C) dx [])) y dx = H2 := by
    funext b
    unfold hid2
    by_cases h1 : b = y
    · subst h1; rw [if_pos (.inl rfl), hy]
    · by_cases h3 : b = dx
      · subst h3; rw [if_pos (.inr rfl), hdx]
      · rw [if_neg (fun z => z.elim h1 h3), upd_ne h1, upd_ne h3]
  refine ⟨⟨y, dx, vs, G2, ds, _, rfl, upd_same, by rw [upd_ne ne, upd_same], ne, gy, gd, j1, Gr.neB g2.j hy, Gr.neB g2.j hdx, h2, q2, fun fs us dy G3 H3 q3 g3 z1 z2 z3 z4 z5 z6 z7 z8 => ⟨rfl, ?_⟩⟩, fun _ _ _ h => h⟩
  rw [eh] at g3 z6
  have g4 := g3.frz (p := dy) z6 z5 z7 z2
  have g5 := g4.frz (p := y) hy (by rw [upd_ne (Ne.symm z3)]; exact z4) (Gr.neB g2.j hy) z1
  have e5 : Ex G3 (upd (upd G3 dy (.xd [])) y (SlX.SlO y (B.ct C) dy (us.map some))) := (Ex.new z5).trans (Ex.new (by rw [upd_ne (Ne.symm z3)]; exact z4))
  exact k _ _ _ _ q3 (g2.trans g5) (.obj upd_same (by rw [upd_ne z3, upd_same]) (z8.mono e5))
end
end DL
namespace DL
open PySem PySem.Spec PyProof.Rows L2 Evl
def rIsD (K : PySem.W.Frag) (D a dd : Addr) : List V → Hp → VK → Prop := fun xs H Q => ∃ (c : V) (cv : Value) (b : Bool) (fs : List (Str × V)), xs = [.ref a, c] ∧ (∀ u, RelV c u → u = cv) ∧ PySem.W.kitOne K (.ref D) cv = some b ∧ H dd = some (.xd fs) ∧ Q (.bl b) H
theorem call_isD {X : Cx} {a D dd : Addr} {oe : Obj} {pn : List (Addr × Obj)} (C : ExcC X.K D) (hz : Zc (.ref D) (some dd) oe) (hf : ∃ vs, oe.data = .fields vs) : CallR (X.suite a ((a, oe) :: pn)) (.builtin "isinstance") (rIsD X.K D a dd) := by
  intro pins s σ H xs us Q I r h
  obtain ⟨c, cv, b, fs, rfl, hcv, e, hd, q⟩ := h
  cases r with
  | cons rx rr =>
    cases rr with
    | cons rt rr =>
      cases rr
      cases rx
      have ec := hcv _ rt
      subst ec
      obtain ⟨hget, _⟩ := I.pin (a, oe) (List.mem_append.mpr (.inl List.mem_cons_self))
      obtain ⟨vs, hv⟩ := hf
      have hx : ObjOk X.prog X.w H s.heap dd (.xd fs) := I.hok dd _ hd
      obtain ⟨mA, hns, _⟩ := hx
      obtain ⟨od, ho, _⟩ := lookIn_ns hns
      have J : PySem.W.InstAt s.heap a oe D (some od) := ⟨hget, hz.1, by unfold PySem.W.notCls; rw [hv] <;> rfl, by rw [hz.2]; exact ho⟩
      exact PySem.W.kia_one (PySem.W.kitx_exc (by obtain ⟨cd, hc, _⟩ := PySem.W.any_some C.hd; rw [hc]; rfl) C.hg C.hk C.hs C.ha C.hn C.ht C.hm) I.kIn J e (fun z => nomatch z) fun tk => ⟨.bl b, H, I.kept (t' := tk) fun _ _ z => z, rfl, q⟩
/-- the reading of a handler's expression: o, what it gives -/
def tV (K : PySem.W.Frag) (B : Bx) (a dd : Addr) (f : Str) (y : D) (i : Nat) (o : Option D) : TE := fun σ H P => ∃ (G : Hp) (v : V) (d : D), o = some d ∧ Jn K B G H ∧ σ[i]? = some (some (.ref a)) ∧ H dd = some (.xd [(f, v)]) ∧ Dat K B G v y ∧
  ∀ w G2 H2, Gr K B G H G2 H2 → Dat K B G2 w d → P w H2
section
variable {X : Cx} {B : Bx} {a dd Dc : Addr} {oe : Obj} {pn : List (Addr × Obj)} {f fl w en cn : Str} {y : D} {i j x1 : Nat} {p1 p2 p3 p4 pos : Pos}
theorem pv_fld (T : XfC X.K Dc) (hno : PySem.W.findIn X.K (.ref Dc) fl = some none) (hz : Zc (.ref Dc) (some dd) oe) (hf : ∃ vs, oe.data = .fields vs) (hN : X.N[i]? = some en) (hv : Vis X.env.scope en) (hd1 : (en == ("__debug__" : Str)) = false := by decide) (hd2 : (en == ("__classdict__" : Str)) = false := by decide)
    (hb : attributeBase (.Name en p2) fl X.env (eval (.Name en p2) X.env) = eval (.Name en p2) X.env := by rfl) (hs : starEach [.Constant (.str w) j p1, .Attribute (.Name en p2) fl p3] X.env = (false, eval (.Constant (.str w) j p1) X.env) :: starEach [.Attribute (.Name en p2) fl p3] X.env := by rfl) (hs2 : starEach [.Attribute (.Name en p2) fl p3] X.env = (false, eval (.Attribute (.Name en p2) fl p3) X.env) :: starEach [] X.env := by rfl) :
    PE (X.suite a ((a, oe) :: pn)) (.Tuple [.Constant (.str w) j p1, .Attribute (.Name en p2) fl p3] x1 p4) (tV X.K B a dd f y i (if f = fl then some (.tup [.str w, y]) else none)) :=
  pe_mono (pe_tup (pa_cons pe_str (pa_cons (pe_xf (cls := .ref Dc) (d := some dd) (X := X) T hno hz hf (pe_var (X := X.suite a ((a, oe) :: pn)) hN hv hd1 hd2) hb) pa_nil hs2) hs)) fun σ H P q => by
    obtain ⟨G, v, d, ho, j, hi, hdd, hy, k⟩ := q
    split at ho
    · rename_i e
      subst e
      cases ho
      refine ⟨.ref a, hi, rfl, rfl, dd, [(f, v)], v, rfl, hdd, by simp [List.lookup], ?_⟩
      show [V.str w, v].length ≤ sizeLine ∧ _
      refine ⟨by rw [sizeLine_eq]; show 2 ≤ 16777216; omega, fun p hp => ?_⟩
      have g := Gr.new (o := .tup [.str w, v]) j hp
      exact k _ _ _ g (.tup upd_same (.cons (.str _) (.cons (hy.mono g.ex) .nil)))
    · cases ho
theorem pv_oth (hs : starEach [.Constant (.str w) j p1, .Constant .none x1 p2] X.env = (false, eval (.Constant (.str w) j p1) X.env) :: starEach [.Constant .none x1 p2] X.env := by rfl) (hs2 : starEach [.Constant .none x1 p2] X.env = (false, eval (.Constant .none x1 p2) X.env) :: starEach [] X.env := by rfl) {x2 : Nat} :
    PE (X.suite a ((a, oe) :: pn)) (.Tuple [.Constant (.str w) j p1, .Constant .none x1 p2] x2 p4) (tV X.K B a dd f y i (some (.tup [.str w, .non]))) :=
  pe_mono (pe_tup (pa_cons pe_str (pa_cons pe_non pa_nil hs2) hs)) fun σ H P q => by
    obtain ⟨G, v, d, ho, j, hi, hdd, hy, k⟩ := q
    cases ho
    show [V.str w, V.non].length ≤ sizeLine ∧ _
    refine ⟨by rw [sizeLine_eq]; show 2 ≤ 16777216; omega, fun p hp => ?_⟩
    have g := Gr.new (o := .tup [.str w, .non]) j hp
    exact k _ _ _ g (.tup upd_same (.cons (.str _) (.cons .non .nil)))
/-- isinstance(e, C) as a test -/
def tIsD (a dd : Addr) (i : Nat) (b : Bool) : TT := fun σ H P => σ[i]? = some (some (.ref a)) ∧ (∃ fs, H dd = some (.xd fs)) ∧ P b H
theorem pv_is {Cn : Addr} {b : Bool} (C : ExcC X.K Dc) (hz : Zc (.ref Dc) (some dd) oe) (hf : ∃ vs, oe.data = .fields vs) (hk : PySem.W.kitOne X.K (.ref Dc) (.ref Cn) = some b) (hgi : Gl X "isinstance") (hmi : X.mg "isinstance" = none) (hgc : Gl X cn) (hmc : X.mg cn = some (.ref Cn)) (hN : X.N[i]? = some en) (hv : Vis X.env.scope en)
    (hd1 : (en == ("__debug__" : Str)) = false := by decide) (hd2 : (en == ("__classdict__" : Str)) = false := by decide) (hd3 : (cn == ("__debug__" : Str)) = false := by decide)
    (hs : starEach [.Name en p2, .Name cn p3] X.env = (false, eval (.Name en p2) X.env) :: starEach [.Name cn p3] X.env := by rfl) (hs2 : starEach [.Name cn p3] X.env = (false, eval (.Name cn p3) X.env) :: starEach [] X.env := by rfl)
    (hpl : (backTo pos (starEach [.Name cn p3] X.env)).any (·.1) = false := by rfl)
    (he : ∀ whole, isTrue (.Call (.Name "isinstance" p1) [.Name en p2, .Name cn p3] [] pos) X.env whole = (do let v ← whole; standAt (Expr.Call (.Name "isinstance" p1) [.Name en p2, .Name cn p3] [] pos).pos; holding [v] (truthy v)) := by intro _; rfl) :
    PT (X.suite a ((a, oe) :: pn)) (.Call (.Name "isinstance" p1) [.Name en p2, .Name cn p3] [] pos) (tIsD a dd i b) :=
  pt_mono (pt_val (pe_callB (X := X.suite a ((a, oe) :: pn)) (call_isD C hz hf) hgi hmi (by decide +kernel) (pa_cons (pe_var (X := X.suite a ((a, oe) :: pn)) hN hv hd1 hd2) (pa_cons (pe_glob (X := X.suite a ((a, oe) :: pn)) (v := .ref Cn) hgc hmc rfl hd3) pa_nil hs2) hs) (by decide) (by decide) hs hpl) he) fun σ H P q => by
    obtain ⟨hi, ⟨fs, hd⟩, q⟩ := q
    exact ⟨.ref a, hi, .ref Cn, .ref Cn, b, fs, rfl, fun u r => r, hk, hd, b, rfl, q⟩
theorem pv_ife {c ea eb : Expr} {oa ob : Option D} {b : Bool} (hc : PT (X.suite a ((a, oe) :: pn)) c (tIsD a dd i b)) (ha : PE (X.suite a ((a, oe) :: pn)) ea (tV X.K B a dd f y i oa)) (hb : PE (X.suite a ((a, oe) :: pn)) eb (tV X.K B a dd f y i ob)) :
    PE (X.suite a ((a, oe) :: pn)) (.IfExp c ea eb pos) (tV X.K B a dd f y i (if b = true then oa else ob)) := pe_mono (pe_ifExp hc ha hb) fun σ H P q => by
  obtain ⟨G, v, d, ho, j, hi, hdd, hy, k⟩ := q
  refine ⟨hi, ⟨_, hdd⟩, ?_⟩
  cases b with
  | true => exact ⟨G, v, d, ho, j, hi, hdd, hy, k⟩
  | false => exact ⟨G, v, d, ho, j, hi, hdd, hy, k⟩
/-- .. of a suite that returns -/
def tVS (K : PySem.W.Frag) (B : Bx) (a dd : Addr) (f : Str) (y : D) (i : Nat) (o : Option D) : TS := fun E σ H => tV K B a dd f y i o σ H E.rt
theorem pvs_ret {ea : Expr} {oa : Option D} (ha : PE (X.suite a ((a, oe) :: pn)) ea (tV X.K B a dd f y i oa)) : PSs (X.suite a ((a, oe) :: pn)) [.Return (some ea) pos] (tVS X.K B a dd f y i oa) := pss_one (ps_ret ha)
theorem pvs_if {c ea : Expr} {rest : List Stmt} {oa ob : Option D} {b : Bool} (hc : PT (X.suite a ((a, oe) :: pn)) c (tIsD a dd i b)) (ha : PE (X.suite a ((a, oe) :: pn)) ea (tV X.K B a dd f y i oa)) (hr : PSs (X.suite a ((a, oe) :: pn)) rest (tVS X.K B a dd f y i ob)) :
    PSs (X.suite a ((a, oe) :: pn)) (.If c [.Return (some ea) p1] [] pos :: rest) (tVS X.K B a dd f y i (if b = true then oa else ob)) := pss_mono (pss_cons (ps_if hc (pss_one (ps_ret (pos := p1) ha)) pss_nil) hr) fun E σ H q => by
  obtain ⟨G, v, d, ho, j, hi, hdd, hy, k⟩ := q
  refine ⟨hi, ⟨_, hdd⟩, ?_⟩
  cases b with
  | true => exact ⟨G, v, d, ho, j, hi, hdd, hy, k⟩
  | false => exact ⟨G, v, d, ho, j, hi, hdd, hy, k⟩
end
end DL
namespace DL
open PySem PySem.Spec PyProof.Rows L2 LamX
theorem anc_gr {K : PySem.W.Frag} {B : Bx} {G H G2 H2 : Hp} (hu : B.up = some (G, H)) (j : Jn K B G2 H2) : Gr K B G H G2 H2 :=
  ⟨j.xt.ex _ hu, fun a o s h => j.xt.keep _ hu a o s h, j, fun a m => j.xt.old _ hu a m⟩
end DL
namespace DL
open PySem PySem.Spec PyProof.Rows L2 Evl LamX
/-- nothing is new, or one code object, written into the table at P -/
def Mk1 (H : Hp) (P : Addr) (q : Str) (c' : Addr) (H1 : Hp) : Prop := H1 = H ∨ (H c' = none ∧ ∃ ps ps' : Array Value, H P = some (.tbl ps) ∧ H1 = upd (upd H P (.tbl ps')) c' (CodeO c' q) ∧ TriplesOk ps'.toList ∧
  ∀ (pos : Pos) (cv : Value), codeAmong pos ps'.toList = some cv → codeAmong pos ps.toList = some cv ∨ cv = .ref c')
section
variable {X : Cx} {pins : List (Addr × Obj)} {σ : L2.St} {H : Hp} {s : Shared}
theorem lam_mk {c P : Addr} {params : Arguments} {body : Expr} {scope : Scope} {pos : Pos} {E : Value → Shared → Prop} {Q : Value → Shared → Prop} (I : Inv X pins σ H s) (TB : TabB X.base X.mg c P) (hcode : X.env.code = .ref c)
    (hT : TabS H P (X.env.qual ++ "<lambda>")) (hdef : defaultsOf params X.env = ([], [])) (hfree : ∀ y ∈ scope.names, y.2 = .free → ∃ c, X.env.cells.lookup y.1 = some c)
    (h : ∀ (f c' : Addr) (pm ctv : Value) (H1 : Hp) (s' : Shared), Inv X pins σ H1 s' → Mk1 H P (X.env.qual ++ "<lambda>") c' H1 →
      s'.heap.get? f = some (PySem.W.kla_obj "<lambda>" (X.env.qual ++ "<lambda>") params body scope (cloFrom X.env.cells scope.names []) pm c' ctv) → H1 f = none → f ∉ frs X.stack → H1 c' = some (CodeO c' (X.env.qual ++ "<lambda>")) → Q (.ref f) s') :
    wpAny (model X.prog X.w) X.A (eval (.Lambda params body scope pos) X.env) Q E s := by
  obtain ⟨ps, hP, ht, ha⟩ := hT
  have far : ∀ f, s.heap.objs.size ≤ f → f ∉ frs X.stack := fun f hf z => by
    rcases List.mem_cons.mp (I.stkSub _ z) with e | e
    · have h1 := I.lt
      rw [← e] at h1
      exact absurd (Nat.lt_of_lt_of_le h1 hf) (Nat.lt_irrefl _)
    · exact I.nofs hf e
  have glob := I.mod.glob.keeps I.bk
  have cHd := TB.code.keeps I.bk
  have blt := TB.bm.keeps I.bk
  have tabAt : s.heap.get? P = some { cls := .none, data := .fields ps } := I.hok P _ hP
  refine PySem.W.kla_eval hdef ?_
  by_cases hit : ∃ cv, codeAmong pos ps.toList = some cv
  · obtain ⟨cv, hcv⟩ := hit
    obtain ⟨c', rfl, hco⟩ := ha pos cv hcv
    refine PySem.W.kla_makeFunctionHit (mg := X.mg) (c := c) (P := P) (ps := ps) (closure_ok hfree) I.ok.glob glob hcode cHd tabAt ht hcv blt fun ctv h' tk hx hsz => ?_
    exact h _ c' _ ctv H _ (I.kept (t' := tk) fun b o e => Heap.get?_push_of_some _ (hx b o e)) (.inl rfl) (Heap.get?_push_size _ rfl) (I.hok.fresh hsz) (far _ hsz) hco
  · have miss : codeAmong pos ps.toList = none := by
      cases z : codeAmong pos ps.toList with
      | none => rfl
      | some cv => exact absurd ⟨cv, z⟩ hit
    refine PySem.W.kla_makeFunction (mg := X.mg) (c := c) (P := P) (ps := ps) (closure_ok hfree) I.ok.glob glob hcode cHd tabAt ht miss TB.gP blt fun c' ctv h' tk hx hge hlt hrec htb => ?_
    obtain ⟨c2, oc, vs, t, e2, hoc, hd, hv⟩ := hrec
    cases e2
    have fresh : H c' = none := I.hok.fresh hge
    have J := inv_table (t' := tk) (more := #[rawInt pos.line, rawInt pos.col, .ref c']) (h' := h'.push (PySem.W.kla_obj "<lambda>" (X.env.qual ++ "<lambda>") params body scope (cloFrom X.env.cells scope.names []) ((X.mg "__name__").getD .none) c' ctv)) I hP
      (fun b o hb e => Heap.get?_push_of_some _ (hx b o hb e)) (Heap.get?_push_of_some _ htb) hge ⟨oc, vs, t, Heap.get?_push_of_some _ hoc, hd, hv⟩
    have lst : (ps ++ #[rawInt pos.line, rawInt pos.col, .ref c']).toList = ps.toList ++ [rawInt pos.line, rawInt pos.col, .ref c'] := by simp
    have big : s.heap.objs.size ≤ h'.objs.size := Nat.le_trans hge (Nat.le_of_lt hlt)
    have pLt := Heap.lt_size tabAt
    refine h h'.objs.size c' _ ctv _ _ J (.inr ⟨fresh, ps, _, hP, rfl, by rw [lst]; exact PySem.TriplesOk_snoc _ _ _ _ ht, fun p' cv z => ?_⟩) (Heap.get?_push_size _ rfl) ?_ (far _ big) upd_same
    · rw [lst] at z
      exact among_app _ ht z
    · rw [upd_ne (Nat.ne_of_gt hlt), upd_ne (Nat.ne_of_gt (Nat.lt_of_lt_of_le pLt big))]
      exact I.hok.fresh big
end
section
variable {K : PySem.W.Frag} {B : Bx} {G H H1 : Hp} {P c' : Addr} {q : Str}
/-- behind the making of a lambda: all stands, its code object is known -/
theorem Gr.tab (j : Jn K B G H) (hm : (P, q) ∈ B.tb) (hu : ∀ t ∈ B.tb, t.1 = P → t.2 = q) (m : Mk1 H P q c' H1) : ∃ G1, Gr K B G H G1 H1 := by
  rcases m with rfl | ⟨hc, ps, ps', hP, rfl, ht, ha⟩
  · exact ⟨G, Gr.refl j⟩
  · have gc : G c' = none := fresh_back j.ex hc
    obtain ⟨⟨ps0, z1, z2, z3⟩, gP⟩ := j.xt.tb _ hm
    have z1 : H P = some (.tbl ps0) := z1
    rw [hP] at z1
    cases z1
    have nPc : P ≠ c' := ne_of_none hP hc
    have bagb : ∃ xs, H B.b = some (.lst xs) := let ⟨_, _, _, _, h, _⟩ := j.bag; ⟨_, h⟩
    have nbP : B.b ≠ P := fun e => by
      obtain ⟨xs, h⟩ := bagb
      rw [e, hP] at h
      cases h
    have nbc : B.b ≠ c' := fun e => by
      obtain ⟨xs, h⟩ := bagb
      rw [e, hc] at h
      cases h
    have at1 : ∀ a, a ≠ P → a ≠ c' → upd (upd H P (.tbl ps')) c' (CodeO c' q) a = H a := fun a h1 h2 => by rw [upd_ne h2, upd_ne h1]
    have ex1 := Ex.new (o := CodeO c' q) gc
    have kp : ∀ a o, B.st a → H a = some o → upd (upd H P (.tbl ps')) c' (CodeO c' q) a = some o := fun a o s h => by
      rw [at1 a (fun e => s.2 _ hm e) (ne_of_none h hc)]
      exact h
    have old : ∀ a, Mu H a → upd G c' (CodeO c' q) a = G a := fun a m => upd_ne fun e => by subst e; exact m.ne hc
    refine ⟨upd G c' (CodeO c' q), ex1, kp, ⟨fun a o h => ?_, by rw [upd_ne nbc]; exact j.no, ?_, ?_⟩, old⟩
    · by_cases e : a = c'
      · subst e
        rw [upd_same] at h ⊢
        exact h
      · rw [upd_ne e] at h
        rw [at1 a (fun e2 => by rw [e2, gP] at h; cases h) e]
        exact j.ex a o h
    · obtain ⟨a, b, c, ns, h1, h2, h3⟩ := j.bag
      exact ⟨a, b, c, ns, by rw [at1 _ nbP nbc]; exact h1, ex_l ex1 h2, h3⟩
    · refine ⟨fun t h => ?_, fun u h => (j.xt.ex u h).trans ex1, fun u h a o s e => kp a o s (j.xt.keep u h a o s e), fun u h a m => ?_⟩
      · obtain ⟨⟨pt, y1, y2, y3⟩, y4⟩ := j.xt.tb t h
        have ntc : t.1 ≠ c' := ne_of_none y1 hc
        refine ⟨?_, by rw [upd_ne ntc]; exact y4⟩
        by_cases e : t.1 = P
        · have e2 := hu t h e
          rw [e, e2]
          refine ⟨ps', by rw [upd_ne nPc, upd_same], ht, fun pos cv z => ?_⟩
          rcases ha pos cv z with z | z
          · obtain ⟨c0, x1, x2⟩ := z3 pos cv z
            exact ⟨c0, x1, ex1 _ _ x2⟩
          · exact ⟨c', z, upd_same⟩
        · refine ⟨pt, by rw [at1 _ e ntc]; exact y1, y2, fun pos cv z => ?_⟩
          obtain ⟨c0, x1, x2⟩ := y3 pos cv z
          exact ⟨c0, x1, ex1 _ _ x2⟩
      · rw [old a (j.mu u h a m)]
        exact j.xt.old u h a m
end
end DL
namespace DL
open PySem PySem.Spec PyProof.Rows L2 Evl LamX
/-- B with its anchor at u -/
abbrev Bx.at (B : Bx) (u : Option (Hp × Hp)) : Bx := { B with up := u }
section
variable {K : PySem.W.Frag} {B B' : Bx} {G : Hp}
mutual
theorem Dat.cong (h1 : B'.b = B.b) (h2 : B'.ct = B.ct) : ∀ {v : V} {d : D}, Dat K B G v d → Dat K B' G v d
  | _, _, .non => .non
  | _, _, .bl b => .bl b
  | _, _, .int i => .int i
  | _, _, .str x => .str x
  | _, _, .lst h t => .lst h (Dats.cong h1 h2 t)
  | _, _, .tup h t => .tup h (Dats.cong h1 h2 t)
  | _, _, .ktup h t => .ktup h (Dats.cong h1 h2 t)
  | _, _, .dK h t => .dK h (DatK.cong h1 h2 t)
  | _, _, .dT h t => .dT h (DatT.cong h1 h2 t)
  | _, _, .bag => h1 ▸ .bag
  | _, _, .obj h h3 t => .obj (by rw [h2]; exact h) h3 (Dats.cong h1 h2 t)
theorem Dats.cong (h1 : B'.b = B.b) (h2 : B'.ct = B.ct) : ∀ {v : List V} {d : List D}, Dats K B G v d → Dats K B' G v d
  | _, _, .nil => .nil
  | _, _, .cons h t => .cons (Dat.cong h1 h2 h) (Dats.cong h1 h2 t)
theorem DatK.cong (h1 : B'.b = B.b) (h2 : B'.ct = B.ct) : ∀ {v : List (Key × V)} {d : List (D × D)}, DatK K B G v d → DatK K B' G v d
  | _, _, .nil => .nil
  | _, _, .consI h t => .consI (Dat.cong h1 h2 h) (DatK.cong h1 h2 t)
  | _, _, .consS h t => .consS (Dat.cong h1 h2 h) (DatK.cong h1 h2 t)
theorem DatT.cong (h1 : B'.b = B.b) (h2 : B'.ct = B.ct) : ∀ {v : List (List Key × V)} {d : List (D × D)}, DatT K B G v d → DatT K B' G v d
  | _, _, .nil => .nil
  | _, _, .cons h t => .cons (Dat.cong h1 h2 h) (DatT.cong h1 h2 t)
end
end
theorem Dat.toAt {K : PySem.W.Frag} {B : Bx} {G : Hp} {v : V} {d : D} (u : Option (Hp × Hp)) (h : Dat K B G v d) : Dat K (B.at u) G v d := Dat.cong (B := B) (B' := B.at u) rfl rfl h
theorem Dat.ofAt {K : PySem.W.Frag} {B : Bx} {G : Hp} {v : V} {d : D} {u : Option (Hp × Hp)} (h : Dat K (B.at u) G v d) : Dat K B G v d := Dat.cong (B := B.at u) (B' := B) rfl rfl h
section
variable {K : PySem.W.Frag} {B : Bx} {H0 G H G1 H1 G2 H2 : Hp} {σ : L2.St} {δ : DS}
/-- the anchor is set here -/
theorem Jn.anchor (j : Jn K B G H) : Jn K (B.at (some (G, H))) G H where
  ex := j.ex
  no := j.no
  bag := j.bag
  xt := { tb := j.xt.tb, ex := fun u h => by cases h; exact Ex.refl G, keep := fun u h a o _ e => by cases h; exact e, old := fun u h a _ => by cases h; rfl }
/-- what holds with the anchor here, holds with the older one; all grew from here -/
theorem Gr.weigh (j0 : Jn K B G1 H1) (j : Jn K (B.at (some (G1, H1))) G2 H2) : Gr K B G1 H1 G2 H2 where
  ex := j.xt.ex _ rfl
  kp := fun a o s h => j.xt.keep _ rfl a o s h
  old := fun a m => j.xt.old _ rfl a m
  j := { ex := j.ex, no := j.no, bag := j.bag, xt := {
    tb := j.xt.tb
    ex := fun u h => (j0.xt.ex u h).trans (j.xt.ex _ rfl)
    keep := fun u h a o s e => j.xt.keep _ rfl a o s (j0.xt.keep u h a o s e)
    old := fun u h a m => by rw [j.xt.old _ rfl a (j0.mu u h a m)]; exact j0.xt.old u h a m } }
/-- only plain data are known of the slots -/
def shD : Option SD → Option SD
  | some (.sh d) => some (.sh d)
  | _ => none
def shOnly (δ : DS) : DS := δ.map shD
theorem StOk.plain (u : Option (Hp × Hp)) (x : StOk K B H0 G H σ δ) : StOk K (B.at u) H G H σ (shOnly δ) := by
  obtain ⟨F, y⟩ := x.ex
  refine ⟨fun _ => [], ⟨by unfold shOnly; rw [List.length_map]; exact y.len, fun i ov od h1 h2 => ?_, fun i j _ _ _ p hp => nomatch hp⟩⟩
  unfold shOnly at h2
  rw [List.getElem?_map] at h2
  cases hd : δ[i]? with
  | none => rw [hd] at h2; cases h2
  | some od' =>
    rw [hd, Option.map_some] at h2
    have h2 := Option.some.inj h2
    subst h2
    have s := y.at_ i ov od' h1 hd
    generalize F i = f at s
    cases s with
    | no => exact .no
    | sh h => exact .sh (h.toAt u)
    | ow h n q => exact .no
    | nw n => exact .no
end
end DL
namespace DL
open PySem PySem.Spec PyProof.Rows L2 Evl LamX
theorem law_runT {P : Program} {w : World} {K : PySem.W.Frag} {mg mb : Str → Option Value} {k : Nat} {fa a : Addr} {cs : List (Addr × Addr)} {fd : FuncData} {x : Str} {sp : Sp} {s1 : Shared} {vs : List Value} {ns : List Int}
    (KX : K.In s1.heap) (hns : s1.heap.Ns mainGlobals mg) (hb : s1.heap.Ns builtinsNs mb) (hbb : ∀ x : Str, x ≠ "__name__" → mb x = bootBuiltins x) (hlim : s1.heap.NoLimit) (hgens : s1.gens = #[])
    (hT : ∀ p ∈ cs, s1.heap.get? p.2 = some { cls := .none, data := .fields #[] }) (nT : ∀ p ∈ cs, K.lookup p.2 = none) (hC : ∀ p ∈ cs, PySem.W.CodeHd s1.heap p.1 p.2)
    (hbm : ∃ (bm : Addr) (ob : Obj), mg "__builtins__" = some (.ref bm) ∧ bm ≠ builtinsNs ∧ s1.heap.get? bm = some ob ∧ ob.cls = .type "module" ∧ ob.dict = some builtinsNs ∧ ob.data = .plain)
    (ha : s1.heap.get? a = some { cls := .type "list", data := .seq vs.toArray }) (hi : IntsAre vs ns) (hl : ns.length ≤ sizeLine) (room : Room k callerA)
    (F : ∀ base : Heap, K.In base → base.Ns mainGlobals mg → (∀ p ∈ cs, TabB base mg p.1 p.2) → FnG P w K mg base CX0 k fa fd [x] sp) (hbind : ∀ (s : Shared) (u : Value), BindsTo s fd ⟨[u], []⟩ [(x, u)])
    (hsp : ∀ H : Hp, (∀ p ∈ cs, H p.2 = some (.tbl #[])) → SqL K H a (ns.map V.int) → sp [.ref a] H (fun v _ => v = .bl true) fun _ _ _ => False) :
    codeAny (model P w) callerA (.call (.ref fa) ⟨[.ref a], []⟩) (fun r s' => r = .ok (.ret (.bool true)) ∧ OldK s1.heap s'.heap ∧ s'.os = s1.os ∧ AllBare s'.gens) s1 := by
  let o : Obj := { cls := .type "list", data := .seq vs.toArray }
  have rel := vals_of_ints hi
  have isT : ∀ b, b ∈ cs.map (·.2) → s1.heap.get? b = some { cls := .none, data := .fields #[] } := fun b hb => by
    obtain ⟨p, hp, rfl⟩ := List.mem_map.mp hb
    exact hT p hp
  have memT : ∀ p ∈ cs, p.2 ∈ cs.map (·.2) := fun p hp => List.mem_map_of_mem hp
  have aT : a ∉ cs.map (·.2) := fun z => by
    have q := isT a z
    rw [ha] at q
    cases q
  have noK : ∀ b, b ∈ cs.map (·.2) → K.lookup b = none := fun b hb => by
    obtain ⟨p, hp, rfl⟩ := List.mem_map.mp hb
    exact nT p hp
  -- the script is locked, unless it is one of the module's own things; the tables stand empty
  obtain ⟨H, only, tabs, seen, held⟩ : ∃ H : Hp, (∀ b, H b = none ∨ (b = a ∧ K.lookup a = none ∧ H b = some (.frz o (.lst (ns.map V.int)))) ∨ (b ∈ cs.map (·.2) ∧ H b = some (.tbl #[]))) ∧ (∀ p ∈ cs, H p.2 = some (.tbl #[])) ∧ SqL K H a (ns.map V.int) ∧ HOk P w H s1.heap := by
    cases hk : K.lookup a with
    | some u =>
      have z := KX a u hk
      rw [ha] at z
      cases z
      refine ⟨fun b => if b ∈ cs.map (·.2) then some (.tbl #[]) else none, fun b => ?_, fun p hp => if_pos (memT p hp), .inr ⟨_, vs.toArray, _, hk, rfl, rfl, rfl, by rw [List.size_toArray, hi.length]; exact hl, rel⟩, fun b u z => ?_⟩
      · by_cases hb : b ∈ cs.map (·.2)
        · exact .inr (.inr ⟨hb, if_pos hb⟩)
        · exact .inl (if_neg hb)
      · by_cases hb : b ∈ cs.map (·.2)
        · have z : (if b ∈ cs.map (·.2) then some (HO.tbl #[]) else none) = some u := z
          rw [if_pos hb] at z
          cases z
          exact isT b hb
        · have z : (if b ∈ cs.map (·.2) then some (HO.tbl #[]) else none) = some u := z
          rw [if_neg hb] at z
          cases z
    | none =>
      refine ⟨fun b => if b ∈ cs.map (·.2) then some (.tbl #[]) else upd (fun _ => none) a (.frz o (.lst (ns.map V.int))) b, fun b => ?_, fun p hp => if_pos (memT p hp), .inl (.inr ⟨o, (if_neg aT).trans upd_same⟩), fun b u z => ?_⟩
      · by_cases hb : b ∈ cs.map (·.2)
        · exact .inr (.inr ⟨hb, if_pos hb⟩)
        · by_cases hba : b = a
          · subst hba
            exact .inr (.inl ⟨rfl, rfl, (if_neg hb).trans upd_same⟩)
          · exact .inl ((if_neg hb).trans (upd_ne hba))
      · have z : (if b ∈ cs.map (·.2) then some (HO.tbl #[]) else upd (fun _ => none) a (.frz o (.lst (ns.map V.int))) b) = some u := z
        by_cases hb : b ∈ cs.map (·.2)
        · rw [if_pos hb] at z
          cases z
          exact isT b hb
        · rw [if_neg hb] at z
          by_cases hba : b = a
          · subst hba
            rw [upd_same] at z
            cases z
            exact ⟨ha, by rw [List.length_map]; exact hl, vs, _, rel, ha⟩
          · rw [upd_ne hba] at z; cases z
  have free : ∀ {b : Addr} {u : Obj}, s1.heap.get? b = some u → ((∀ xs n, u.data ≠ .seq xs n) ∧ u.data ≠ .fields #[]) ∨ K.lookup b = some u → H b = none := fun {b u} e z => by
    rcases only b with q | ⟨rfl, hk, _⟩ | ⟨hb, _⟩
    · exact q
    · rcases z with z | z
      · rw [ha] at e; cases e; exact (z.1 _ _ rfl).elim
      · rw [hk] at z; cases z
    · rcases z with z | z
      · rw [isT b hb] at e; cases e; exact (z.2 rfl).elim
      · rw [noK b hb] at z; cases z
  have ns_ : ∀ {b : Addr} {m : Str → Option Value}, s1.heap.Ns b m → (hidT s1.heap H).Ns b m := fun {b m} ⟨u, es, ep, e, d, r⟩ => ⟨u, es, ep, hidT_get e (free e (.inl ⟨(fun _ _ z => by rw [d] at z; cases z), (fun z => by rw [d] at z; cases z)⟩)), d, r⟩
  have kin : K.In (hidT s1.heap H) := fun b u e => hidT_get (KX b u e) (free (KX b u e) (.inr e))
  have md : Mod K mg (hidT s1.heap H) := ⟨kin, ns_ hns, ⟨mb, ns_ hb, hbb⟩, hlim.elim fun m z => ⟨m, ns_ z.1, z.2⟩⟩
  have tbs : ∀ p ∈ cs, TabB (hidT s1.heap H) mg p.1 p.2 := fun p hp => by
    have tp := hT p hp
    refine ⟨?_, ?_, fun z => ?_⟩
    · obtain ⟨u, us, file, tf, flags, tg, inF, text, tt, e1, r1, r2, r3, r⟩ := hC p hp
      exact ⟨u, us, file, tf, flags, tg, inF, text, tt, hidT_get e1 (free e1 (.inl ⟨(fun _ _ z => by rw [r2] at z; cases z), (fun z => by rw [r2] at z; cases z; simp at r3)⟩)), r1, r2, r3, r⟩
    · obtain ⟨bm, ob, b1, b2, b3, b4, b5, b6⟩ := hbm
      refine ⟨bm, ob, b1, b2, fun q => ?_, fun q => ?_, hidT_get b3 (free b3 (.inl ⟨(fun _ _ z => by rw [b6] at z; cases z), (fun z => by rw [b6] at z; cases z)⟩)), b4, b5, b6⟩
      · obtain ⟨og, es, ep, e, hd, _⟩ := hns
        rw [q, e] at b3
        cases b3
        rw [hd] at b6
        cases b6
      · rw [q, tp] at b3
        cases b3
        cases b6
    · obtain ⟨og, es, ep, e, hd, _⟩ := hns
      rw [z, tp] at e
      cases e
      cases hd
  have env : Env0 P w K mg (hidT s1.heap H) callerA [] s1 H := ⟨rfl, md, fun _ _ e => of_hidT e, Nat.le_of_eq (hidT_size _ _), trivial, (fun b z => nomatch (show b ∈ ([] : List Addr) from z)), held, .of_eq hgens⟩
  refine codeAny_mono ((F _ kin (ns_ hns) tbs).go callerA [] s1 H ⟨[.ref a], []⟩ [.ref a] [.ref a] _ _ rfl room env (hbind s1 (.ref a)) (.cons rfl .nil) (hsp H tabs seen)) fun r s' h => ?_
  match r, h with
  | .error e, h => exact h.elim
  | .ok (.ret u), h =>
    obtain ⟨v, H', os, bare, un, held', r', q⟩ := h
    have q' : v = .bl true := q
    subst q'
    obtain rfl : u = Value.bool true := r'
    have stays : ∀ b ob, b ∉ cs.map (·.2) → s1.heap.get? b = some ob → s'.heap.get? b = some ob := fun b ob nb e => by
      rcases only b with q | ⟨rfl, _, q⟩ | ⟨hb, _⟩
      · exact un.keep b ob e q (fun z => nomatch (show b ∈ ([] : List Addr) from z)) (fun z => nomatch z)
      · have z2 := un.frzs b o _ q
        rw [ha] at e
        cases e
        exact (held' b _ z2).1
      · exact absurd hb nb
    have grows : ∀ b, b ∈ cs.map (·.2) → ∃ (p : Addr × Addr) (more : Array Value), p ∈ cs ∧ p.2 = b ∧ s'.heap.get? b = some { cls := .none, data := .fields more } := fun b hb => by
      obtain ⟨p, hp, rfl⟩ := List.mem_map.mp hb
      obtain ⟨more, z⟩ := un.tbls p.2 #[] (tabs p hp)
      exact ⟨p, _, hp, rfl, held' p.2 _ z⟩
    refine ⟨rfl, ⟨fun b ob e => ?_, fun b ob e => ?_⟩, os, bare⟩
    · by_cases hb : b ∈ cs.map (·.2)
      · obtain ⟨p, more, hp, rfl, z⟩ := grows b hb
        rw [hT p hp] at e
        cases e
        exact .inr (.inl ⟨((hC p hp).tab (hT p hp)).isCodeTable, rfl, #[], more, rfl, by rw [Array.empty_append]; exact z⟩)
      · exact .inl (stays b ob hb e)
    · by_cases hb : b ∈ cs.map (·.2)
      · obtain ⟨_, _, _, _, z⟩ := grows b hb
        exact ⟨_, z⟩
      · exact ⟨ob, stays b ob hb e⟩
/-- what is to be told of the law at the head's heap -/
def LawT (l : PySem.W.OpenLaw) (w : World) (K : PySem.W.Frag) (k n : Nat) (x : Str) (mg : Str → Option Value) (fa : Addr) (h : Heap) : Prop :=
  ∃ (fd : FuncData) (cs : List (Addr × Addr)) (sp : Sp), (∀ p ∈ cs, h.get? p.2 = some { cls := .none, data := .fields #[] }) ∧ (∀ p ∈ cs, K.lookup p.2 = none) ∧ (∀ p ∈ cs, PySem.W.CodeHd h p.1 p.2) ∧ (∀ (s : Shared) (u : Value), BindsTo s fd ⟨[u], []⟩ [(x, u)]) ∧
    (∀ (H : Hp) (a : Addr) (ns : List Int), ns.length ≤ n → (∀ z ∈ ns, Builtin.Int.intBits z ≤ 1048576) → (∀ p ∈ cs, H p.2 = some (.tbl #[])) → SqL K H a (ns.map V.int) → sp [.ref a] H (fun v _ => v = .bl true) fun _ _ _ => False) ∧
    ∀ base : Heap, K.In base → base.Ns mainGlobals mg → (∀ p ∈ cs, TabB base mg p.1 p.2) → FnG l.prog w K mg base CX0 k fa fd [x] sp
theorem walk_gT {l : PySem.W.OpenLaw} {n k : Nat} {q : Program} {loose : List Str} {XP : (Str → Option Value) → Heap → Prop} {YP : World → Heap → Prop} {d : DefRec} {K : Params → PySem.W.Frag} {x : Str}
    (hn : l.most = some n) (hn2 : n ≤ sizeLine) (hdf : d.params.defaults = []) (hr : Room k callerA) (hY : ∀ (w : World) (h : Heap), YP w h → (K w.params).In h)
    (F : ∀ (w : World) (mg : Str → Option Value) (fa : Addr) (h : Heap), YP w h → (K w.params).In h → h.Ns mainGlobals mg → mg d.name = some (.ref fa) → LawT l w (K w.params) k n x mg fa h) :
    PySem.W.WalkO q loose XP YP l.row.toRowW d [] (fun f vs => PySem.call f vs) :=
  Att.attach_callB hn hdf fun w _ s1 mg mb fa _ _ _ _ a vs ns G Y _ _ _ hmg hobj hints hlen hbits hg => by
    have KX := hY w _ Y
    obtain ⟨fd, cs, sp, hT, nT, hC, hb, hsp, hF⟩ := F w mg fa _ Y KX G.T.g hmg
    exact law_runT KX G.T.g G.T.b G.T.builtins G.T.nolimit hg hT nT hC G.T.bmain hobj hints (Nat.le_trans hlen hn2) hr hF hb fun H hH hS => hsp H a ns hlen hbits hH hS
end DL
namespace DL
open PySem PySem.Spec PyProof.Rows L2 Evl
theorem code_ref {K : PySem.W.Frag} {cd : Value} {q : Str} (h : PySem.W.codeIn K cd q = true) : ∃ c, cd = .ref c := by
  unfold PySem.W.codeIn at h
  cases cd with
  | ref c => exact ⟨c, rfl⟩
  | _ => cases h
section
variable {P : Program} {w : World} {K : PySem.W.Frag} {mg : Str → Option Value} {base : Heap} {CX : CXT} {f : Addr} {fd : FuncData} {ps : List Str} {sp : Sp} {k : Nat}
theorem fng_ofC {x qual : Str} {st : Stmt} {N : List Str} (F : Fun K x qual st f fd) (S : FnScope N ps (defScope st)) (len : ∀ vs H Q E, sp vs H Q E → vs.length = ps.length)
    (hbody : ∀ (c : Addr) (A : Around) (fr : List Env) (s : Shared) (H : Hp) (vs : List V) (Q : VK) (E : XK), fd.code = .ref c → A.guards = some [] → Room k (A.deeper (envOfC qual (defScope st) s.heap.objs.size f (.ref c))) → sp vs H Q E →
      ∃ t, PSs (cxOf CX P w K mg base N qual (defScope st) f (.ref c) A fr s H E) (defBody st) t ∧ t { nx := fun _ H' => Q .non H', rt := Q } (L2.start N vs) H) : FnG P w K mg base CX (k + 1) f fd ps sp := by
  obtain ⟨oc, od, kV, doc, pm, an, cdv, ct, osl, rfl, lk, hcd⟩ := F.ex
  obtain ⟨c, rfl⟩ := code_ref hcd
  refine ⟨len, fun A fr s H args us vs Q E hgd room env bnd rel hsp => ?_⟩
  have inK : K.In s.heap := env.mod.kin.keeps fun b o z => (env.bs b o z).1
  have noLim : s.heap.NoLimit := env.mod.nolimit.keeps fun b o z => (env.bs b o z).1
  refine codeAny_call_function room.depth (inK _ _ lk) rfl S.co S.gen rfl (PySem.W.codeRec_of inK hcd) (bnd _ _ _ _ ?_)
  refine wpAny_newFunctionEnv_cells S.kind (fun ⟨n, v⟩ hy => (S.par n (List.of_mem_zip hy).1).elim .inl fun z => .inr ⟨z, PySem.W.cellsFrom_some _ _ _ (.inl z)⟩) fun _ hEnv s1 born => ?_
  subst hEnv
  refine ⟨noLim.keeps born.toInCall.keep, codeAny_func ?_⟩
  obtain ⟨t, ht, hw⟩ := hbody c A fr s H vs Q E rfl hgd (room.deeper _) hsp
  have I := inv_start (CX := CX) (E := E) S room.hd env (len _ _ _ _ hsp) rel born
  refine wpAny_mono (ht.run [] s1 _ H _ I hw) (fun fl s' hs => ?_) fun _ _ z => z
  cases fl with
  | next =>
    obtain ⟨σ', H', J, q⟩ := hs
    exact ⟨.non, H', J.os, J.bare, J.base, J.hok, rfl, q⟩
  | ret u =>
    obtain ⟨v, σ', H', J, rv, q⟩ := hs
    exact ⟨v, H', J.os, J.bare, J.base, J.hok, rv, q⟩
  | brk => exact hs.elim fun _ z => z.elim fun _ y => y.2.elim
  | cont => exact hs.elim fun _ z => z.elim fun _ y => y.2.elim
end
end DL
namespace DL
open PySem PySem.Spec PyProof.Rows L2 Evl
end DL
namespace DL
open PySem PySem.Spec PyProof.Rows L2 NdefX
structure ExcF (P : Program) (w : World) (K : PySem.W.Frag) (mg : Str → Option Value) (base : Heap) (C : Addr) (x fld par : Str) where
  g : mg x = some (.ref C)
  oex : OexC K C
  f : Addr
  fd : FuncData
  init : PySem.W.findIn K (.ref C) "__init__" = some (some (.ref f))
  ty : PySem.W.typeIn K (.ref f) = some (.type "function")
  ok : FnOk P w K mg base CX0 1 f fd ["self", par] (spEI C fld)
  bd : Binds K fd ["self", par] []
/-- .. out of its __init__'s statement st -/
def excf_of {P : Program} {w : World} {K : PySem.W.Frag} {mg : Str → Option Value} {base : Heap} {C f cc cda : Addr} {st : Stmt} {x name qual fld par msg : Str} {dV kV doc pm ct oc : Value} {an od : Option Addr} {osl : Array (Option Value)} {ar : Arg} {p0 p1 p2 p3 p4 p5 p6 p7 p8 p9 : Pos} {j : Nat} {pl : Sem Bool}
    (g : mg x = some (.ref C)) (init : PySem.W.findIn K (.ref C) "__init__" = some (some (.ref f))) (ty : PySem.W.typeIn K (.ref f) = some (.type "function")) (XI : XIn P K mg C f cc cda fld)
    (hb : defBody st = [.Expr (.Call (.Attribute (.Call (.Name "super" p0) [] [] p1) "__init__" p2) [.Constant (.str msg) j p3] [] p4) p5, .Assign [.Attribute (.Name "self" p6) fld p7] (.Name par p8) p9])
    (lk : K.lookup f = some ⟨oc, od, .func (PySem.W.ksFn name qual (defArgs st) (defBody st) (defScope st) dV kV doc pm an (.ref cda) ct cc), osl⟩)
    (hcd : PySem.W.codeIn K (.ref cda) qual = true) (S : NScope ["self", par, "__class__"] ["self", par] ["__class__"] (defScope st))
    (hp : ((defArgs st).posonlyargs ++ (defArgs st).args).head? = some ar) (har : ar.arg = "self") (hks : (defScope st).names.lookup ("super" : Str) = some .globalImplicit) (hpd : (par == ("__debug__" : Str)) = false) (hpc : (par == ("__classdict__" : Str)) = false) (hps : par ≠ "self")
    (he : ∀ L, eval (.Call (.Attribute (.Call (.Name "super" p0) [] [] p1) "__init__" p2) [.Constant (.str msg) j p3] [] p4) (PySem.W.ksEnv qual (defScope st) L f (.ref cda) cc) = (do
      let ov ← attributeBase (.Call (.Name "super" p0) [] [] p1) "__init__" (PySem.W.ksEnv qual (defScope st) L f (.ref cda) cc) (eval (.Call (.Name "super" p0) [] [] p1) (PySem.W.ksEnv qual (defScope st) L f (.ref cda) cc))
      standAt p2.atName
      let (fv, first) ← holding [ov] (getMethod ov "__init__" pl)
      callWith p4 fv first (backTo p4 (starEach [.Constant (.str msg) j p3] (PySem.W.ksEnv qual (defScope st) L f (.ref cda) cc))) []))
    (hs0 : ∀ L, swapsWith (.Call (.Attribute (.Call (.Name "super" p0) [] [] p1) "__init__" p2) [.Constant (.str msg) j p3] [] p4) none p5.line (PySem.W.ksEnv qual (defScope st) L f (.ref cda) cc) = pure false)
    (hs1 : ∀ L, swapsWith (.Name par p8) (some (.Attribute (.Name "self" p6) fld p7)) p9.line (PySem.W.ksEnv qual (defScope st) L f (.ref cda) cc) = pure false)
    (bd : Binds K (PySem.W.ksFn name qual (defArgs st) (defBody st) (defScope st) dV kV doc pm an (.ref cda) ct cc) ["self", par] []) : ExcF P w K mg base C x fld par where
  g := g
  oex := XI.oex
  f := f
  fd := PySem.W.ksFn name qual (defArgs st) (defBody st) (defScope st) dV kV doc pm an (.ref cda) ct cc
  init := init
  ty := ty
  ok := by
    rw [hb] at lk ⊢
    exact exinit_ok (k := 0) XI lk hcd S hp har hks hpd hpc hps he hs0 hs1
  bd := bd
end DL
namespace DL
open PySem PySem.Spec PyProof.Rows L2 Evl LamX NdefX
section
variable {P : Program} {w : World} {K : PySem.W.Frag} {mg : Str → Option Value} {base : Heap}
/-- fng_d, the code object's place told -/
theorem fng_dC {x qual : Str} {st : Stmt} {f : Addr} {fd : FuncData} {N ps : List Str} {k : Nat} {B : Bx} {S : FD} {t : DTS} (F : Fun K x qual st f fd) (Sc : FnScope N ps (defScope st)) (len : ∀ ds Q, S ds Q → ds.length = ps.length)
    (hbody : ∀ (c : Addr) (A : Around) (fr : List Env) (s : Shared) (H : Hp) (E : XK), fd.code = .ref c → A.guards = some [] → Room k (A.deeper (envOfC qual (defScope st) s.heap.objs.size f (.ref c))) → PSsD (cxOf CX0 P w K mg base N qual (defScope st) f (.ref c) A fr s H E).nox B (defBody st) t)
    (vc : ∀ ds Q, S ds Q → t { nx := fun _ => Q .non, rt := Q } (startD N.length ds)) : FnG P w K mg base CX0 (k + 1) f fd ps (spD K B S) := by
  refine fng_ofC F Sc (fun vs H Q E h => ?_) (fun c A fr s H vs Q E hc hg hr h => ⟨_, (hbody c A fr s H E hc hg hr).nox, ?_⟩)
  · obtain ⟨G, ds, R, j, hd, hs, _⟩ := h
    rw [hd.len]
    exact len ds R hs
  · obtain ⟨G, ds, R, j, hd, hs, kk⟩ := h
    refine ⟨G, H, G, startD N.length ds, _, Gr.refl j, start_ok hd, vc ds R hs, ⟨?_, ?_, ?_, ?_, ?_⟩⟩
    · exact fun σ δ G2 H2 q g _ s2 => kk .non .non G2 H2 q g .non
    · exact fun σ δ G2 H2 q g _ s2 => q.elim
    · exact fun σ δ G2 H2 q g _ s2 => q.elim
    · exact fun d v G2 H2 q g _ hd => kk d v G2 H2 q g hd
    · exact fun o v f G2 H2 q => q.elim
end
section
variable {Wx : XW} {c : Nat} {f w0 : Str} {r : DE} {E : DEnds} {δ : DS} {okc : Nat → Bool} {hd : Nat → Str → D → Option D} {rx : XW → DE} {Q : D → Prop}
theorem z_raise : dRaise Wx c f r E δ = r δ fun d => Wx c f d := propext Iff.rfl
theorem z_shOnly : shOnly δ = δ.map shD := rfl
theorem z_shDs {d : D} : shD (some (.sh d)) = some (.sh d) := rfl
theorem z_shDn : shD none = none := rfl
end
/-- a def's code object stands at c -/
def codeIs (K : PySem.W.Frag) (f c : Addr) : Bool := match K.lookup f with
  | some ⟨_, _, .func fd, _⟩ => (match fd.code with
    | .ref c' => Nat.beq c' c
    | _ => false)
  | _ => false
theorem codeIs_eq {K : PySem.W.Frag} {f c : Addr} {oc : Value} {od : Option Addr} {osl : Array (Option Value)} {fd : FuncData} (h : codeIs K f c = true) (l : K.lookup f = some ⟨oc, od, .func fd, osl⟩) : fd.code = .ref c := by
  unfold codeIs at h
  rw [l] at h
  have h : (match fd.code with | .ref c' => Nat.beq c' c | _ => false) = true := h
  cases e : fd.code with
  | ref c' =>
    rw [e] at h
    rw [Nat.eq_of_beq_eq_true h]
  | _ => rw [e] at h; cases h
theorem DefAt.code {K : PySem.W.Frag} {mg : Str → Option Value} {x : Str} {st : Stmt} {ps : List Str} {c : Addr} (T : DefAt K mg x st ps) (h : codeIs K T.f c = true) : T.fd.code = .ref c := by
  obtain ⟨oc, od, kV, doc, pm, an, cdv, ct, osl, efd, lk, hcd⟩ := T.fn.ex
  exact codeIs_eq h lk
/-- what is told of a def's table -/
def TabIs (K : PySem.W.Frag) (mg : Str → Option Value) (h : Heap) (x : Str) (P : Addr) : Prop := ∃ f c : Addr, mg x = some (.ref f) ∧ codeIs K f c = true ∧ PySem.W.CodeHd h c P ∧ K.lookup P = none ∧ h.get? P = some { cls := .none, data := .fields #[] }
theorem ex_tab {K : PySem.W.Frag} {mg : Str → Option Value} {h : Heap} {x : Str} {f c P : Addr} {oc : Value} {od cd : Option Addr} {osl sl : Array (Option Value)} {fd : FuncData} {vs : Array Value} (X : K.In h) (G : h.Ns mainGlobals mg) (a : PySem.W.nsIn K mainGlobals x = some (some (.ref f))) (l : K.lookup f = some ⟨oc, od, .func fd, osl⟩) (hc : fd.code = .ref c)
    (lc : K.lookup c = some ⟨.type "code", cd, .fields vs, sl⟩) (hP : vs[11]? = some (.ref P)) (hh : PySem.W.codeHdIn K c P = true) (no : K.lookup P = none) (e : h.get? P = some { cls := .none, data := .fields #[] }) : TabIs K mg h x P :=
  ⟨f, c, PySem.W.mg_of X G a, by
    unfold codeIs
    rw [l]
    show (match fd.code with | .ref c' => Nat.beq c' c | _ => false) = true
    rw [hc]
    exact Nat.beq_refl c, PySem.W.codeHd_of_K X hh, no, e⟩
/-- what is told of an exception class -/
structure ExcAll (P : Program) (w : World) (K : PySem.W.Frag) (mg : Str → Option Value) (C : Addr) (x fld par : Str) : Prop where
  f : ∀ base : Heap, Nonempty (ExcF P w K mg base C x fld par)
  ec : ExcC K C
  xf : XfC K C
theorem ex_exc {P : Program} {w : World} {K : PySem.W.Frag} {mg : Str → Option Value} {h : Heap} {C f cc cda : Addr} {st : Stmt} {x qual fld par msg : Str} {dV kV doc pm ct oc : Value} {an od : Option Addr} {osl : Array (Option Value)} {ar : Arg} {p0 p1 p2 p3 p4 p5 p6 p7 p8 p9 : Pos} {j : Nat} {pl : Sem Bool}
    {nm q : Str} {N : Addr} {bs bm : List Value} {sn : List Str} {sub : List Value} {ab : Bool} {col : Option Bool} {dd : Option Addr} {k0 k1 k2 k3 k5 : Option Value} {cl ccl : Value} {cld cdd : Option Addr} {csl ccs : Array (Option Value)} {vs : Array Value} {file : Str} {tf : Tok} {cd : ClassData}
    (X : K.In h) (G : h.Ns mainGlobals mg) (a : PySem.W.nsIn K mainGlobals x = some (some (.ref C))) (i : PySem.W.findIn K (.ref C) "__init__" = some (some (.ref f))) (ty : PySem.W.typeIn K (.ref f) = some (.type "function"))
    (lk : K.lookup f = some ⟨oc, od, .func (PySem.W.ksFn "__init__" qual (defArgs st) (defBody st) (defScope st) dV kV doc pm an (.ref cda) ct cc), osl⟩) (hcd : PySem.W.codeIn K (.ref cda) qual = true)
    (lC : K.lookup C = some (excClassObj nm q C N bs bm true sn sub ab col dd k0 k1 k2 k3 k5 "ValueError.__new__")) (hr : PySem.HandSPX.refsVE bm = true)
    (sa : PySem.W.findIn K (.ref C) "__setattr__" = some (some (.builtin "object.__setattr__"))) (exC : PySem.W.subIn K (.ref C) (.type "BaseException") = some true) (tyC : PySem.W.typeIn K (.ref C) = some (.type "type")) (kC : PySem.W.keepIn K (.ref C) = true)
    (lcc : K.lookup cc = some ⟨cl, cld, .cell (some (.ref C)), csl⟩) (lcd : K.lookup cda = some ⟨ccl, cdd, .fields vs, ccs⟩) (hv : vs[2]? = some (.str file tf)) (hf : ((P.main.file : Str) == file) = true)
    (hc : PySem.W.clsIn K C = some cd) (mr : PySem.W.mroIn K C (.ref C) = some true) (sup : PySem.W.nsIn K mainGlobals "super" = some none) (ini : PySem.W.ks_superIn K C C "__init__" = some (some (.builtin "ValueError.__init__")))
    (subV : PySem.W.subIn K (.ref C) (.type "ValueError") = some true) (any : PySem.W.nsIn K cStatics "thirdparty.any" = some none) (nofld : PySem.W.findIn K (.ref C) fld = some none) (top : (P.main.scope.names.lookup ("super" : Str)).isSome = false)
    (hg : PySem.W.findIn K (.ref C) "__getattribute__" = some (some (.builtin "BaseException.__getattribute__"))) (hk : PySem.W.findIn K (.ref C) "__getattr__" = some none) (hd : PySem.W.hasDictIn K C = true) (ha : PySem.W.findIn K (.ref C) "__class__" = some (some (.builtin "object.__class__")))
    (hn : PySem.W.specialIn K (.builtin "object.__class__") "__get__" = some (some (.builtin "getset_descriptor.__get__"))) (ht : PySem.W.takesIn K (.builtin "object.__class__") = some true) (hm : PySem.W.mroIn K C (.type "object") = some true)
    (hb : defBody st = [.Expr (.Call (.Attribute (.Call (.Name "super" p0) [] [] p1) "__init__" p2) [.Constant (.str msg) j p3] [] p4) p5, .Assign [.Attribute (.Name "self" p6) fld p7] (.Name par p8) p9])
    (S : NScope ["self", par, "__class__"] ["self", par] ["__class__"] (defScope st))
    (hp : ((defArgs st).posonlyargs ++ (defArgs st).args).head? = some ar) (har : ar.arg = "self") (hks : (defScope st).names.lookup ("super" : Str) = some .globalImplicit) (hpd : (par == ("__debug__" : Str)) = false) (hpc : (par == ("__classdict__" : Str)) = false) (hps : par ≠ "self")
    (he : ∀ (f cda cc : Addr) L, eval (.Call (.Attribute (.Call (.Name "super" p0) [] [] p1) "__init__" p2) [.Constant (.str msg) j p3] [] p4) (PySem.W.ksEnv qual (defScope st) L f (.ref cda) cc) = (do
      let ov ← attributeBase (.Call (.Name "super" p0) [] [] p1) "__init__" (PySem.W.ksEnv qual (defScope st) L f (.ref cda) cc) (eval (.Call (.Name "super" p0) [] [] p1) (PySem.W.ksEnv qual (defScope st) L f (.ref cda) cc))
      standAt p2.atName
      let (fv, first) ← holding [ov] (getMethod ov "__init__" pl)
      callWith p4 fv first (backTo p4 (starEach [.Constant (.str msg) j p3] (PySem.W.ksEnv qual (defScope st) L f (.ref cda) cc))) []))
    (hs0 : ∀ (f cda cc : Addr) L, swapsWith (.Call (.Attribute (.Call (.Name "super" p0) [] [] p1) "__init__" p2) [.Constant (.str msg) j p3] [] p4) none p5.line (PySem.W.ksEnv qual (defScope st) L f (.ref cda) cc) = pure false)
    (hs1 : ∀ (f cda cc : Addr) L, swapsWith (.Name par p8) (some (.Attribute (.Name "self" p6) fld p7)) p9.line (PySem.W.ksEnv qual (defScope st) L f (.ref cda) cc) = pure false)
    (b : ∀ (us : List Value), us.length = (["self", par] : List Str).length → bindArgs (PySem.W.ksFn "__init__" qual (defArgs st) (defBody st) (defScope st) dV kV doc pm an (.ref cda) ct cc) ⟨us, []⟩ = pure ((["self", par] : List Str).zip us)) : ExcAll P w K mg C x fld par where
  f := fun base => ⟨excf_of (st := st) (PySem.W.mg_of X G a) i ty ⟨⟨⟨nm, q, N, bs, bm, sn, sub, ab, col, dd, k0, k1, k2, k3, k5, lC, hr⟩, sa, exC, tyC, kC⟩, ⟨cl, cld, csl, lcc⟩, ⟨ccl, cdd, vs, ccs, file, tf, lcd, hv, hf⟩, ⟨cd, hc⟩, mr, PySem.W.mg_none_of X G sup, ini, subV, any, nofld, top⟩
    hb lk hcd S hp har hks hpd hpc hps (he f cda cc) (hs0 f cda cc) (hs1 f cda cc) (.all b)⟩
  ec := ⟨hg, hk, exC, hd, ha, hn, ht, hm⟩
  xf := ⟨hg, hk, exC, hd⟩
end DL
namespace DL
open PySem PySem.Spec PyProof.Rows L2 Evl
def outN : List String := ["NoneType", "bool", "int", "str", "list", "tuple", "dict"]
structure OutC (K : PySem.W.Frag) (C : Addr) : Prop where
  one : ∀ T ∈ outN, PySem.W.kitOne K (.type T) (.ref C) = some false
  nf : ∀ T ∈ outN, PySem.W.notFirst K C (.type T) = true
def outB (K : PySem.W.Frag) (C : Addr) : Bool := outN.all fun T => (match PySem.W.kitOne K (.type T) (.ref C) with | some false => true | _ => false) && PySem.W.notFirst K C (.type T)
theorem outB_ok {K : PySem.W.Frag} {C : Addr} (h : outB K C = true) : OutC K C := by
  have a := fun T hT => Bool.and_eq_true_iff.mp (List.all_eq_true.mp h T hT)
  refine ⟨fun T hT => ?_, fun T hT => (a T hT).2⟩
  have b := (a T hT).1
  split at b
  · assumption
  · cases b
theorem tyN_out : ∀ {d : D}, pureD d = true → tyN d ∈ outN
  | .non, _ => by decide
  | .bl _, _ => by show "bool" ∈ outN; decide
  | .int _, _ => by show "int" ∈ outN; decide
  | .str _, _ => by show "str" ∈ outN; decide
  | .lst _, _ => by show "list" ∈ outN; decide
  | .tup _, _ => by show "tuple" ∈ outN; decide
  | .dic _, _ => by show "dict" ∈ outN; decide
/-- instances of another class of the program -/
structure OthC (K : PySem.W.Frag) (C1 C : Addr) : Prop where
  c : SlX.SCls K C1
  si : SlX.SIsi K C1
  one : PySem.W.kitOne K (.ref C1) (.ref C) = some false
  nf : PySem.W.notFirst K C (.ref C1) = true
def isCA (C : Nat) (L : List Nat) (d : D) (Q : D → Prop) : Prop := match d with
  | .obj c _ => (c = C ∧ Q (.bl true)) ∨ (c ≠ C ∧ c ∈ L ∧ Q (.bl false))
  | d => pureD d = true ∧ Q (.bl false)
def dIsCA (C : Nat) (L : List Nat) (r : DE) : DE := fun δ Q => r δ fun d => isCA C L d Q
section
variable {C : Nat} {L : List Nat} {Q : D → Prop} {r : DE} {δ : DS} {fs xs : List D} {kvs : List (D × D)} {b : Bool} {i : Int} {x : Str}
theorem z_isCA : dIsCA C L r δ Q = r δ fun d => isCA C L d Q := propext Iff.rfl
theorem z_isCAo : isCA C L (.obj C fs) Q = Q (.bl true) := propext ⟨fun h => h.elim (·.2) fun h => (h.1 rfl).elim, fun h => .inl ⟨rfl, h⟩⟩
theorem z_isCAn : isCA C L .non Q = Q (.bl false) := propext ⟨fun h => h.2, fun h => ⟨rfl, h⟩⟩
theorem z_isCAb : isCA C L (.bl b) Q = Q (.bl false) := propext ⟨fun h => h.2, fun h => ⟨rfl, h⟩⟩
theorem z_isCAi : isCA C L (.int i) Q = Q (.bl false) := propext ⟨fun h => h.2, fun h => ⟨rfl, h⟩⟩
theorem z_isCAs : isCA C L (.str x) Q = Q (.bl false) := propext ⟨fun h => h.2, fun h => ⟨rfl, h⟩⟩
theorem z_isCAl : isCA C L (.lst xs) Q = Q (.bl false) := propext ⟨fun h => h.2, fun h => ⟨rfl, h⟩⟩
theorem z_isCAt : isCA C L (.tup xs) Q = Q (.bl false) := propext ⟨fun h => h.2, fun h => ⟨rfl, h⟩⟩
theorem z_isCAd : isCA C L (.dic kvs) Q = Q (.bl false) := propext ⟨fun h => h.2, fun h => ⟨rfl, h⟩⟩
theorem isCA_pure {d : D} (h : pureD d = true) (q : Q (.bl false)) : isCA C L d Q := by
  cases d with
  | obj _ _ => cases h
  | _ => exact ⟨h, q⟩
end
section
variable {X : Cx} {B : Bx} {e : Expr} {r : DE} {pos : Pos} {C : Nat} {L : List Nat}
theorem call_isCA : CallR X (.builtin "isinstance") (fun xs H Q => (∃ u, SlX.rIsiSl X.K u xs H Q) ∨ rIsiD X.K xs H Q) := by
  intro pins s σ H xs us Q I r h
  rcases h with ⟨u, h⟩ | h
  · exact SlX.call_isiSl u pins s σ H xs us Q I r h
  · exact call_isiD pins s σ H xs us Q I r h
theorem pd_isCA {cn : Str} {p q : Pos} (c : SlX.SCls X.K (B.ct C)) (si : SlX.SIsi X.K (B.ct C)) (o : OutC X.K (B.ct C)) (ho : ∀ c1 ∈ L, OthC X.K (B.ct c1) (B.ct C)) (hg : Gl X "isinstance") (hm : X.mg "isinstance" = none) (hgT : Gl X cn) (hmT : X.mg cn = some (.ref (B.ct C))) (he : PD X B e r) (hdb : (cn == ("__debug__" : Str)) = false := by decide)
    (hs1 : starEach [e, .Name cn q] X.env = (false, eval e X.env) :: starEach [.Name cn q] X.env := by rfl) (hs2 : starEach [.Name cn q] X.env = (false, eval (.Name cn q) X.env) :: starEach [] X.env := by rfl) (hpl : (backTo pos (starEach [.Name cn q] X.env)).any (·.1) = false := by rfl) :
    PD X B (.Call (.Name "isinstance" p) [e, .Name cn q] [] pos) (dIsCA C L r) := pe_mono (pe_callB call_isCA hg hm (by decide +kernel) (pa_cons he (pa_cons (pe_glob (v := .ref (B.ct C)) hgT hmT rfl hdb) pa_nil hs2) hs1) (by decide) (by decide) hs1 hpl) fun σ H P q => by
  obtain ⟨H0, G, δ, Q, j, st, hr, k⟩ := q
  refine ⟨H0, G, δ, _, j, st, hr, fun d v G2 H2 q2 g2 h2 => ?_⟩
  have pure_ : pureD d = true ∧ Q (.bl false) → (∃ u, SlX.rIsiSl X.K u [v, .ref (B.ct C)] H2 P) ∨ rIsiD X.K [v, .ref (B.ct C)] H2 P := fun ⟨hp, q3⟩ =>
    .inr ⟨v, .ref (B.ct C), _, .ref (B.ct C), false, rfl, .own _, ty_d g2.j.ex h2 hp, o.one _ (tyN_out hp), k _ _ G2 H2 q3 g2 (.bl _)⟩
  cases h2 with
  | @obj a dx c' vs fs h3 h4 h5 =>
    refine .inl ⟨.ref (B.ct C), ?_⟩
    rcases q2 with ⟨e, q3⟩ | ⟨ne, hm, q3⟩
    · subst e
      refine ⟨a, _, dx, _, .ref (B.ct c'), true, rfl, rfl, fun w hw => hw, .inr ⟨g2.j.ex _ _ h3, g2.j.ex _ _ h4⟩, c, si, ?_, k _ _ G2 H2 q3 g2 (.bl _)⟩
      unfold PySem.W.kitOne
      rw [if_pos (by simp)]
    · have oc := ho _ hm
      exact ⟨a, _, dx, _, .ref (B.ct C), false, rfl, rfl, fun w hw => hw, .inr ⟨g2.j.ex _ _ h3, g2.j.ex _ _ h4⟩, oc.c, oc.si, oc.one, k _ _ G2 H2 q3 g2 (.bl _)⟩
  | _ => exact pure_ q2
end
def okR (C : Nat) (L : List Nat) (d : D) : Prop := match d with
  | .obj c _ => c = C ∨ c ∈ L
  | d => pureD d = true
def oOwnA (C : Nat) (L : List Nat) (S : FD) : O2 := fun x y Q => isO C x ∧ okR C L y ∧ S [x, y] Q
def oOwnNeA (C : Nat) (L : List Nat) (S : FD) : O2 := fun x y Q => isO C x ∧ okR C L y ∧ S [x, y] fun z => match z with
  | .bl b => Q (.bl (!b))
  | _ => False
section
variable {X : Cx} {B : Bx} {g : Addr} {C k : Nat} {S : FD} {L : List Nat}
theorem right_ty {pins : List (Addr × Obj)} {σ : L2.St} {G H : Hp} {s : Shared} {y : V} {u : Value} {d : D} (nf : PySem.W.notFirst X.K (B.ct C) (.ref (B.ct C)) = true) (o : OutC X.K (B.ct C)) (ho : ∀ c1 ∈ L, OthC X.K (B.ct c1) (B.ct C)) (I : Inv X pins σ H s) (j : Jn X.K B G H) (hy : Dat X.K B G y d) (ry : RelV y u) (h : okR C L d) :
    ∃ tb, PySem.W.Looks (model X.prog X.w) s.heap (typeOf u) tb ∧ PySem.W.notFirst X.K (B.ct C) tb = true := by
  have pure_ : pureD d = true → ∃ tb, PySem.W.Looks (model X.prog X.w) s.heap (typeOf u) tb ∧ PySem.W.notFirst X.K (B.ct C) tb = true := fun hp => by
    refine ⟨.type (tyN d), ?_, o.nf _ (tyN_out hp)⟩
    rcases ty_d j.ex hy hp with ty | ⟨a, od, kvs, rfl, ha, ht⟩
    · obtain ⟨P, kx, p, _⟩ := kit_of I ry ty
      exact kx.ty _ _ I.kIn p
    · cases (show u = Value.ref a from ry)
      obtain ⟨_, _, _, _, _, ob, es, ep, h1, h2, _⟩ := (show ObjOk X.prog X.w H s.heap a (.frz od (.dT kvs)) from I.hok a _ ha)
      rw [ht]
      exact (PySem.W.kitx_dict (K := X.K) (a := a)).ty _ _ I.kIn ⟨ob, h1, h2.1⟩
  cases hy with
  | @obj b d2 C2 ws gs h6 h7 h8 =>
    cases (show u = Value.ref b from ry)
    obtain ⟨sl', od', _, J', _⟩ := SlX.slt_inst I (obj_slt (K := X.K) (B := B) j.ex h6 h7)
    refine ⟨_, J'.type, ?_⟩
    rcases h with e | e
    · subst e; exact nf
    · exact (ho _ e).nf
  | _ => exact pure_ h
theorem op_cmp_ownA {op : CmpOp} (hop : ∀ a b, compareOp op a b = richCompare op a b) (nf : PySem.W.notFirst X.K (B.ct C) (.ref (B.ct C)) = true) (o : OutC X.K (B.ct C)) (ho : ∀ c1 ∈ L, OthC X.K (B.ct c1) (B.ct C)) (hs : PySem.W.findIn X.K (.ref (B.ct C)) (cmpInfo op).2.1 = some (some (.ref g))) (hf : PySem.W.isFn X.K (.ref g) = true) (F : FnR X.prog X.w X.K X.mg X.base CX0 k g (spD X.K B S)) (hr : Room k X.A) : OpR X (compareOp op) (rLift X.K B (oOwnA C L S)) := by
  intro pins s σ H x y v u P I rx ry q
  obtain ⟨G, dx, dy, Q, j, hx, hy, ⟨o1, o2, hq⟩, kk⟩ := q
  obtain ⟨tb, ht, hn⟩ := right_ty nf o ho I j hy ry o2
  cases hx with
  | @obj a d1 C1 vs fs h3 h4 h5 =>
    have o1 : C1 = C := o1
    subst o1
    cases (show v = Value.ref a from rx)
    obtain ⟨sl, od, _, J, _⟩ := SlX.slt_inst I (obj_slt (K := X.K) (B := B) j.ex h3 h4)
    obtain ⟨m, hF⟩ := I.fr
    rw [hop]
    refine PySem.W.cmp_K (op := op) (tb := tb) hr.units0 hF I.ok.mod.kin J ht hn hs hf ?_
    refine wpAny_mono (wpAny_call (run_fnR (E := E0) (us := [.ref a, u]) (vs := [.ref a, y]) F hr pass0 I (.cons rfl (.cons ry .nil)) ⟨G, _, Q, j, .cons (.obj h3 h4 h5) (.cons hy .nil), hq, kk⟩)) (fun w s' z => ?_) fun _ _ x => x
    obtain ⟨z', H', I', rz, qz⟩ := z
    exact SlX.cmpback rz ⟨z', H', I', rz, qz⟩
  | _ => exact o1.elim
theorem op_ne_ownA (nf : PySem.W.notFirst X.K (B.ct C) (.ref (B.ct C)) = true) (o : OutC X.K (B.ct C)) (ho : ∀ c1 ∈ L, OthC X.K (B.ct c1) (B.ct C)) (hs : PySem.W.findIn X.K (.ref (B.ct C)) "__ne__" = some (some (.builtin "object.__ne__"))) (he : PySem.W.findIn X.K (.ref (B.ct C)) "__eq__" = some (some (.ref g))) (hf : PySem.W.isFn X.K (.ref g) = true)
    (hm : PySem.W.mroIn X.K (B.ct C) (.type "object") = some true) (F : FnR X.prog X.w X.K X.mg X.base CX0 k g (spD X.K B S)) (hr : Room (k + 1) X.A) : OpR X (compareOp .NotEq) (rLift X.K B (oOwnNeA C L S)) := by
  intro pins s σ H x y v u P I rx ry q
  obtain ⟨G, dx, dy, Q, j, hx, hy, ⟨o1, o2, hq⟩, kk⟩ := q
  obtain ⟨tb, ht, hn⟩ := right_ty nf o ho I j hy ry o2
  cases hx with
  | @obj a d1 C1 vs fs h3 h4 h5 =>
    have o1 : C1 = C := o1
    subst o1
    cases (show v = Value.ref a from rx)
    obtain ⟨sl, od, _, J, _⟩ := SlX.slt_inst I (obj_slt (K := X.K) (B := B) j.ex h3 h4)
    have hu : X.A.units + 1 < cLine := hr.in1.units0
    refine cmp_ne_K (tb := tb) hu I.kIn J ht hn hs he hf hm ?_
    refine wpAny_mono (wpAny_call (SlX.run_at (E := E0) (us := [.ref a, u]) (ws := [.ref a, y]) (Q := fun z H' => ∃ c, z = .bl c ∧ P (.bl (!c)) H') F hr.in1 I.env0.in1 pass0 I (.cons rfl (.cons ry .nil)) ⟨G, _, _, j, .cons (.obj h3 h4 h5) (.cons hy .nil), hq, fun d v G2 H2 q2 g2 h2 => ?_⟩)) (fun w s' z => ?_) fun _ _ x => x
    · cases h2 with
      | bl c => exact ⟨c, rfl, kk _ _ G2 H2 q2 g2 (.bl _)⟩
      | _ => exact q2.elim
    · obtain ⟨z', H', I', rz, c, rfl, qz⟩ := z
      cases (show w = Value.bool c from rz)
      exact ⟨c, rfl, .bl (!c), H', I', rfl, qz⟩
  | _ => exact o1.elim
end
section
variable {C : Nat} {L : List Nat} {S : FD} {x y : D} {Q : D → Prop}
theorem z_ownA : oOwnA C L S x y Q = (isO C x ∧ okR C L y ∧ S [x, y] Q) := propext Iff.rfl
theorem z_ownNeA : oOwnNeA C L S x y Q = (isO C x ∧ okR C L y ∧ S [x, y] fun z => blD z fun b => Q (.bl (!b))) := propext Iff.rfl
end
end DL
namespace DL
open PySem PySem.Spec PyProof.Rows L2 Evl
def dChain (o o2 : O2) (ra rb rc : DE) : DE := fun δ Q => ra δ fun x => rb δ fun y => o x y fun z => blD z fun k => if k = true then rc δ fun w => o2 y w Q else Q (.bl false)
section
variable {X : Cx} {B : Bx} {a b c : Expr} {ra rb rc : DE} {pos : Pos} {o o2 : O2} {op op2 : CmpOp} {δ : DS} {Q : D → Prop}
theorem z_chain : dChain o o2 ra rb rc δ Q = ra δ fun x => rb δ fun y => o x y fun z => blD z fun k => if k = true then rc δ fun w => o2 y w Q else Q (.bl false) := propext Iff.rfl
theorem chain_lift {σ : L2.St} {H : Hp} {P : VK} (q : liftE X.K B (dChain o o2 ra rb rc) σ H P) : tChain (rLift X.K B o) (rLift X.K B o2) (liftE X.K B ra) (liftE X.K B rb) (liftE X.K B rc) σ H P := by
  obtain ⟨H0, G, δ, Q, j, st, hr, k⟩ := q
  refine ⟨H0, G, δ, _, j, st, hr, fun d v G2 H2 q2 g2 h2 => ?_⟩
  refine ⟨H0, G2, δ, _, g2.j, st.gr g2, q2, fun d3 v3 G3 H3 q3 g3 h3 => ?_⟩
  refine ⟨G3, d, d3, _, g3.j, h2.mono g3.ex, h3, q3, fun d4 v4 G4 H4 q4 g4 h4 => ?_⟩
  cases h4 with
  | bl kk =>
    have q4 : if kk = true then rc δ (fun w => o2 d3 w Q) else Q (.bl false) := q4
    refine ⟨kk, rfl, ?_⟩
    cases kk with
    | true =>
      rw [if_pos rfl] at q4 ⊢
      refine ⟨H0, G4, δ, _, g4.j, ((st.gr g2).gr g3).gr g4, q4, fun d5 v5 G5 H5 q5 g5 h5 => ?_⟩
      exact ⟨G5, d3, d5, Q, g5.j, h3.mono (g4.ex.trans g5.ex), h5, q5, fun d6 v6 G6 H6 q6 g6 h6 => k d6 v6 G6 H6 q6 ((((g2.trans g3).trans g4).trans g5).trans g6) h6⟩
    | false =>
      rw [if_neg (by decide)] at q4 ⊢
      exact k _ _ G4 H4 q4 ((g2.trans g3).trans g4) (.bl _)
  | _ => exact q4.elim
theorem ptd_chain (ho : OpR X (compareOp op) (rLift X.K B o)) (ho2 : OpR X (compareOp op2) (rLift X.K B o2)) (ha : PD X B a ra) (hb : PD X B b rb) (hc : PD X B c rc) (hm : lastMarks [op, op2] [b, c] = false) : PTD X B (.Compare a [op, op2] [b, c] pos) (tBl (dChain o o2 ra rb rc)) := pt_mono (pt_chain ho ho2 ha hb hc hm) fun σ H P q => by
  obtain ⟨H0, G, δ, Q, j, st, hr, k⟩ := q
  refine chain_lift ⟨H0, G, δ, _, j, st, hr, fun d v G2 H2 q2 g2 h2 => ?_⟩
  cases h2 with
  | bl b => exact ⟨b, rfl, k _ G2 H2 q2 g2⟩
  | _ => exact q2.elim
end
end DL
namespace DL
open PySem PySem.Spec PyProof.Rows L2 Evl
section
variable {X : Cx} {B : Bx} {a dd : Addr} {oe : Obj} {pn : List (Addr × Obj)} {f : Str} {y : D} {i : Nat} {p1 pos : Pos}
theorem pvs_retE {sts : List Stmt} {ea : Expr} {oa : Option D} (hs : sts = [.Return (some ea) pos]) (ha : PE (X.suite a ((a, oe) :: pn)) ea (tV X.K B a dd f y i oa)) : PSs (X.suite a ((a, oe) :: pn)) sts (tVS X.K B a dd f y i oa) := by
  rw [hs]
  exact pvs_ret ha
theorem pvs_ifE {sts : List Stmt} {c ea : Expr} {rest : List Stmt} {oa ob : Option D} {b : Bool} (hs : sts = .If c [.Return (some ea) p1] [] pos :: rest) (hc : PT (X.suite a ((a, oe) :: pn)) c (tIsD a dd i b)) (ha : PE (X.suite a ((a, oe) :: pn)) ea (tV X.K B a dd f y i oa)) (hr : PSs (X.suite a ((a, oe) :: pn)) rest (tVS X.K B a dd f y i ob)) :
    PSs (X.suite a ((a, oe) :: pn)) sts (tVS X.K B a dd f y i (if b = true then oa else ob)) := by
  rw [hs]
  exact pvs_if hc ha hr
end
end DL
namespace DL
open PySem PySem.Spec PyProof.Rows L2 Evl PySem.W
mutual
def pyX : D → PyData
  | .lst xs => .list (pyXs xs)
  | .tup xs => .tuple (pyXs xs)
  | .dic ks => kpy ks
  | .non => .none
  | .bl b => .bool b
  | .int i => .int i
  | .str x => .str x
  | .obj _ _ => .none
  | .bag => .none
  | .ktup _ => .none
def pyXs : List D → List PyData
  | [] => []
  | x :: xs => pyX x :: pyXs xs
end
def repKb (ks : List (D × D)) : Bool := ks.all (fun z => (plain z.2 && flat z.2) && (plain z.1 && flat z.1)) && (decide (wtK ks ≤ 100000) && (((ks.all fun z => (dk1 z.1).isSome) || (ks.all fun z => (dkT z.1).isSome)) && eqG (.dic ks) (.dic ks)))
mutual
def rich : D → Bool
  | .lst xs => richs xs
  | .tup xs => richs xs
  | .dic ks => repKb ks
  | .non => true
  | .bl _ => true
  | .int i => decide (i.natAbs.log2 < 1920)
  | .str x => PyData.strOk x
  | .obj _ _ => false
  | .bag => false
  | .ktup _ => false
def richs : List D → Bool
  | [] => true
  | x :: xs => rich x && richs xs
end
mutual
def wtX : D → Nat
  | .lst xs => wtXs xs + 4
  | .tup xs => wtXs xs + 4
  | .dic ks => wtK ks + 4
  | .non => 4
  | .bl _ => 5
  | .int _ => 2000
  | .str x => 10 * x.length + 2
  | .obj _ _ => 0
  | .bag => 0
  | .ktup _ => 0
def wtXs : List D → Nat
  | [] => 0
  | x :: xs => wtX x + 2 + wtXs xs
end
mutual
def depX : D → Nat
  | .lst xs => depXs xs + 1
  | .tup xs => depXs xs + 1
  | .dic _ => 66
  | .non => 64
  | .bl _ => 64
  | .int _ => 64
  | .str _ => 64
  | .obj _ _ => 64
  | .bag => 64
  | .ktup _ => 64
def depXs : List D → Nat
  | [] => 64
  | x :: xs => max (depX x) (depXs xs)
end
theorem repK_of {ks : List (D × D)} (h : repKb ks = true) : RepK ks ∧ eqG (.dic ks) (.dic ks) = true ∧ wtK ks ≤ 100000 := by
  unfold repKb at h
  rw [Bool.and_eq_true, Bool.and_eq_true, Bool.and_eq_true, List.all_eq_true] at h
  obtain ⟨h1, h2, h3, h4⟩ := h
  have h2 : wtK ks ≤ 100000 := of_decide_eq_true h2
  have p : ∀ z ∈ ks, (plain z.2 = true ∧ flat z.2 = true) ∧ plain z.1 = true ∧ flat z.1 = true := fun z hz => by
    have := h1 z hz
    rw [Bool.and_eq_true, Bool.and_eq_true, Bool.and_eq_true] at this
    exact this
  exact ⟨⟨fun z hz => (p z hz).1, fun z hz => (p z hz).2, by omega, Bool.or_eq_true_iff.mp h3⟩, h4, h2⟩
theorem kpy_len2 {ks : List (D × D)} (h : RepK ks) : (kpy ks).shown.length ≤ wtK ks + 4 := by
  have a := shownKv_len h.vp h.kp
  unfold kpy
  rw [PyData.shown]
  unfold dictText
  rw [strLen_append, strLen_append]
  have c := join_up (PyData.shownKv (ks.map fun z => (z.1.py, z.2.py)))
  have e1 : (("{" : String) : Str).length = 1 := rfl
  have e2 : (("}" : String) : Str).length = 1 := rfl
  omega
theorem kpy_dep {ks : List (D × D)} (h : RepK ks) : (kpy ks).depth ≤ 65 := by
  unfold kpy
  rw [PyData.depth]
  have := depthKv_le h.vp h.kp
  omega
mutual
theorem pyX_len : ∀ d : D, rich d = true → (pyX d).shown.length ≤ wtX d
  | .non, _ => by decide +kernel
  | .bl b, _ => by cases b <;> decide +kernel
  | .int i, h => by
    rw [pyX, PyData.shown, wtX]
    exact int_text_len (by simpa [rich] using h)
  | .str x, h => by
    rw [pyX, PyData.shown, wtX]
    exact StrLaws.reprText_len x (strOk_lt (by simpa [rich] using h))
  | .lst xs, h => by
    have := pyXs_len xs (by simpa [rich] using h)
    have h2 := listText_up (PyData.shownAll (pyXs xs))
    rw [pyX, PyData.shown, wtX]
    omega
  | .tup xs, h => by
    have := pyXs_len xs (by simpa [rich] using h)
    have h2 := tupleText_up (PyData.shownAll (pyXs xs))
    rw [pyX, PyData.shown, wtX]
    omega
  | .dic ks, h => by
    rw [pyX, wtX]
    exact kpy_len2 (repK_of (by simpa [rich] using h)).1
  | .obj _ _, h => by simp [rich] at h
  | .bag, h => by simp [rich] at h
  | .ktup _, h => by simp [rich] at h
theorem pyXs_len : ∀ ds : List D, richs ds = true → ((PyData.shownAll (pyXs ds)).map fun t => t.length + 2).sum ≤ wtXs ds
  | [], _ => by simp [pyXs, PyData.shownAll]
  | x :: xs, h => by
    have h' : rich x = true ∧ richs xs = true := by simpa [richs] using h
    have h1 := pyX_len x h'.1
    have h2 := pyXs_len xs h'.2
    rw [pyXs, PyData.shownAll, wtXs, List.map_cons, List.sum_cons]
    omega
end
mutual
theorem pyX_dep : ∀ d : D, rich d = true → (pyX d).depth ≤ depX d
  | .non, _ => by simp [pyX, PyData.depth]
  | .bl _, _ => by simp [pyX, PyData.depth]
  | .int _, _ => by simp [pyX, PyData.depth]
  | .str x, h => by simp [pyX, PyData.depth]
  | .lst xs, h => by
    have := pyXs_dep xs (by simpa [rich] using h)
    rw [pyX, PyData.depth, depX]
    omega
  | .tup xs, h => by
    have := pyXs_dep xs (by simpa [rich] using h)
    rw [pyX, PyData.depth, depX]
    omega
  | .dic ks, h => by
    have := kpy_dep (repK_of (by simpa [rich] using h)).1
    rw [pyX, depX]
    omega
  | .obj _ _, h => by simp [rich] at h
  | .bag, h => by simp [rich] at h
  | .ktup _, h => by simp [rich] at h
theorem pyXs_dep : ∀ ds : List D, richs ds = true → PyData.depthAll (pyXs ds) ≤ depXs ds
  | [], _ => by simp [pyXs, PyData.depthAll]
  | x :: xs, h => by
    have h' : rich x = true ∧ richs xs = true := by simpa [richs] using h
    have h1 := pyX_dep x h'.1
    have h2 := pyXs_dep xs h'.2
    rw [pyXs, PyData.depthAll, depXs]
    omega
end
mutual
theorem pyX_show : ∀ d : D, rich d = true → (pyX d).showable = true
  | .non, _ => rfl
  | .bl _, _ => rfl
  | .int i, h => by simpa [pyX, PyData.showable, rich] using h
  | .str x, h => rfl
  | .lst xs, h => by
    rw [pyX, PyData.showable]
    exact pyXs_show xs (by simpa [rich] using h)
  | .tup xs, h => by
    rw [pyX, PyData.showable]
    exact pyXs_show xs (by simpa [rich] using h)
  | .dic ks, h => by
    have k := (repK_of (by simpa [rich] using h)).1
    rw [pyX]
    unfold kpy
    rw [PyData.showable]
    exact kpy_show k.vp k.kp
  | .obj _ _, h => by simp [rich] at h
  | .bag, h => by simp [rich] at h
  | .ktup _, h => by simp [rich] at h
theorem pyXs_show : ∀ ds : List D, richs ds = true → PyData.showableAll (pyXs ds) = true
  | [], _ => rfl
  | x :: xs, h => by
    have h' : rich x = true ∧ richs xs = true := by simpa [richs] using h
    rw [pyXs, PyData.showableAll, pyX_show x h'.1, pyXs_show xs h'.2]
    rfl
end
section
variable {X : Cx} {B : Bx} {pins : List (Addr × Obj)} {σ : L2.St} {H G : Hp} {s : Shared}
theorem eqP_of_rc {A : Around} {a b : Addr} (h : a ≠ b → RcP X.prog X.w A s (.ref a) (.ref b) true) : SeqAt.EqP X.prog X.w A s (.ref a) (.ref b) true := by
  by_cases e : a = b
  · subst e
    exact (SeqAt.EqAt.same _).eqP
  · exact SeqAt.eqP_refs e (h e)
theorem dicX_run (I : Inv X pins σ H s) (e : Ex G H) {ks : List (D × D)} (hr : repKb ks = true) {A : Around} (hu : A.units + 66 < cLine) {x y : V} {v u : Value} (hx : Dat X.K B G x (.dic ks)) (hy : Dat X.K B G y (.dic ks)) (rx : RelV x v) (ry : RelV y u) :
    ∃ a b, v = .ref a ∧ u = .ref b ∧ RcP X.prog X.w A s v u true := by
  obtain ⟨rk, hg, _⟩ := repK_of hr
  have vp : valsP ks = true := List.all_eq_true.mpr fun z hz => (rk.vp z hz).1
  rw [eqG] at hg
  rcases rk.kk with f | f
  · obtain ⟨a, kvs, va, rfl, d1, r1, s1, h1⟩ := dic_K I e hx f
    obtain ⟨b, lvs, vb, rfl, d2, r2, s2, h2⟩ := dic_K I e hy f
    cases rx
    cases ry
    refine ⟨a, b, rfl, rfl, fun E Q q => ?_⟩
    refine rcP_dicts s1 s2 h1 h2 (by omega) (fun _ => hitsK d2 r2 d1 r1 (allB_plain I e (show A.units + 1 + 64 < cLine by omega) vp vp)) _ _ ?_
    have e1 : va.length = ks.length := by rw [← Paired.length r1, d1.len]
    have e2 : vb.length = ks.length := by rw [← Paired.length r2, d2.len]
    rw [e1, e2, hg]
    exact q
  · obtain ⟨a, kvs, va, rfl, d1, r1, s1, h1⟩ := dic_T I e hx f
    obtain ⟨b, lvs, vb, rfl, d2, r2, s2, h2⟩ := dic_T I e hy f
    cases rx
    cases ry
    refine ⟨a, b, rfl, rfl, fun E Q q => ?_⟩
    refine rcH_eq s1 s2 h1 h2 (by omega) (fun _ => hitsT d2 r2 d1 r1 (allB_plain I e (show A.units + 1 + 64 < cLine by omega) vp vp)) _ _ ?_
    have e1 : va.length = ks.length := by rw [← Paired.length r1, d1.len]
    have e2 : vb.length = ks.length := by rw [← Paired.length r2, d2.len]
    rw [e1, e2, hg]
    exact q
theorem scalX_run (I : Inv X pins σ H s) (e : Ex G H) {d : D} {A : Around} (hu : A.units + 64 < cLine) (p : plain d = true) {x y : V} {v u : Value} (hx : Dat X.K B G x d) (hy : Dat X.K B G y d) (rx : RelV x v) (ry : RelV y u) : SeqAt.EqP X.prog X.w A s v u true := by
  have f := (Bool.and_eq_true_iff.mp p).1
  have h := (eqB_plain I e hu p p hx hy rx ry).1
  rw [eqG_fine d d f f, eqb_refl f] at h
  exact h
mutual
theorem eqX_run (I : Inv X pins σ H s) (e : Ex G H) : ∀ (d : D) (A : Around), rich d = true → A.units + depX d < cLine → ∀ (x y : V) (v u : Value), Dat X.K B G x d → Dat X.K B G y d → RelV x v → RelV y u → SeqAt.EqP X.prog X.w A s v u true
  | .non, A, _, hu, _, _, _, _, hx, hy, rx, ry => scalX_run I e hu (by rfl) hx hy rx ry
  | .bl _, A, _, hu, _, _, _, _, hx, hy, rx, ry => scalX_run I e hu (by rfl) hx hy rx ry
  | .int i, A, h, hu, _, _, _, _, hx, hy, rx, ry => scalX_run I e hu (by unfold plain; rw [D.fine, show decide (i.natAbs.log2 < 1920) = true by simpa [rich] using h]; rfl) hx hy rx ry
  | .str x, A, h, hu, _, _, _, _, hx, hy, rx, ry => scalX_run I e hu (by unfold plain; rw [D.fine, show PyData.strOk x = true by simpa [rich] using h]; rfl) hx hy rx ry
  | .dic ks, A, h, hu, _, _, _, _, hx, hy, rx, ry => by
    obtain ⟨a, b, rfl, rfl, r⟩ := dicX_run I e (by simpa [rich] using h) (A := A) (by rw [depX] at hu; exact hu) hx hy rx ry
    exact eqP_of_rc fun _ => r
  | .lst xs, A, h, hu, _, _, _, _, .lst h1 t1, .lst h2 t2, rx, ry => by
    rw [depX] at hu
    cases rx
    cases ry
    exact eqP_of_rc fun _ => lstX_run I e xs A (by simpa [rich] using h) (by omega) h1 h2 t1 t2
  | .tup xs, A, h, hu, _, _, _, _, .tup h1 t1, .tup h2 t2, rx, ry => by
    rw [depX] at hu
    cases rx
    cases ry
    exact eqP_of_rc fun _ => tupX_run I e xs A (by simpa [rich] using h) (by omega) h1 h2 t1 t2
  | .obj _ _, _, h, _, _, _, _, _, _, _, _, _ => by simp [rich] at h
  | .bag, _, h, _, _, _, _, _, _, _, _, _ => by simp [rich] at h
  | .ktup _, _, h, _, _, _, _, _, _, _, _, _ => by simp [rich] at h
theorem eqXs_run (I : Inv X pins σ H s) (e : Ex G H) : ∀ (ds : List D) (A : Around), richs ds = true → A.units + depXs ds < cLine → ∀ (xs ys : List V) (vs us : List Value), Dats X.K B G xs ds → Dats X.K B G ys ds → Vals xs vs → Vals ys us → ∀ j (h1 : j < vs.length) (h2 : j < us.length), SeqAt.EqP X.prog X.w A s vs[j] us[j] true
  | [], _, _, _, _, _, _, _, .nil, _, r1, _ => fun j h1 _ => by
    cases r1
    exact absurd h1 (Nat.not_lt_zero j)
  | d :: ds, A, h, hu, _, _, _, _, .cons h1 t1, .cons h2 t2, r1, r2 => fun j j1 j2 => by
    have h' : rich d = true ∧ richs ds = true := by simpa [richs] using h
    rw [depXs] at hu
    cases r1 with
    | cons a1 b1 =>
      cases r2 with
      | cons a2 b2 =>
        cases j with
        | zero => exact eqX_run I e d A h'.1 (by omega) _ _ _ _ h1 h2 a1 a2
        | succ j => exact eqXs_run I e ds A h'.2 (by omega) _ _ _ _ t1 t2 b1 b2 j (Nat.lt_of_succ_lt_succ j1) (Nat.lt_of_succ_lt_succ j2)
theorem lstX_run (I : Inv X pins σ H s) (e : Ex G H) : ∀ (ds : List D) (A : Around), richs ds = true → A.units + depXs ds + 1 < cLine → ∀ {a b : Addr} {xs ys : List V}, G a = some (.lst xs) → G b = some (.lst ys) → Dats X.K B G xs ds → Dats X.K B G ys ds → RcP X.prog X.w A s (.ref a) (.ref b) true
  | ds, A, h, hu, a, b, xs, ys, h1, h2, t1, t2 => fun E Q q => by
    obtain ⟨us, r1, p1, _⟩ := I.list (sq_of (e _ _ h1))
    obtain ⟨ws, r2, p2, _⟩ := I.list (sq_of (e _ _ h2))
    have hsz : us.toArray.size = ws.toArray.size := by
      rw [List.size_toArray, List.size_toArray, ← r1.length, ← r2.length, t1.len, t2.len]
    refine SeqAt.rcP_lists (e := fun _ => true) p1.isList p2.isList hsz (by omega) (fun j j1 j2 => ?_) E Q ?_
    · have k := eqXs_run I e ds A.in1 h (by show A.units + 1 + _ < _; omega) _ _ _ _ t1 t2 r1 r2 j (by simpa using j1) (by simpa using j2)
      simpa using k
    · rw [show ((List.range us.toArray.size).all fun _ => true) = true from List.all_eq_true.mpr fun _ _ => rfl]
      exact q
theorem tupX_run (I : Inv X pins σ H s) (e : Ex G H) : ∀ (ds : List D) (A : Around), richs ds = true → A.units + depXs ds + 1 < cLine → ∀ {a b : Addr} {xs ys : List V}, G a = some (.tup xs) → G b = some (.tup ys) → Dats X.K B G xs ds → Dats X.K B G ys ds → RcP X.prog X.w A s (.ref a) (.ref b) true
  | ds, A, h, hu, a, b, xs, ys, h1, h2, t1, t2 => fun E Q q => by
    obtain ⟨us, r1, p1, _⟩ := I.tuple (tx e h1)
    obtain ⟨ws, r2, p2, _⟩ := I.tuple (tx e h2)
    have hsz : us.toArray.size = ws.toArray.size := by
      rw [List.size_toArray, List.size_toArray, ← r1.length, ← r2.length, t1.len, t2.len]
    refine SeqAt.rcIn_tuples (e := fun _ => true) p1 p2 (by omega) (fun j j1 j2 => ?_) ?_
    · have k := eqXs_run I e ds A.in1 h (by show A.units + 1 + _ < _; omega) _ _ _ _ t1 t2 r1 r2 j (by simpa using j1) (by simpa using j2)
      exact (show SeqAt.EqP X.prog X.w A.in1 s us[j] ws[j] true from k)
    · rw [show ((List.range (min us.toArray.size ws.toArray.size)).all fun _ => true) = true from List.all_eq_true.mpr fun _ _ => rfl, hsz]
      simpa using q
end
theorem reads_dic (I : Inv X pins σ H s) (j : Jn X.K B G H) {a : Addr} {ks : List (D × D)} (rk : RepK ks) (h : Dat X.K B G (.ref a) (.dic ks)) : Reads s.heap (.ref a) (kpy ks) [a] ∧ (a == sysModules) = false := by
  cases h with
  | @dK a od kvs ks h3 h4 =>
    obtain ⟨hs, hgd, hx, es, ep, vs, hdt, hsz, kv, hm⟩ := I.frzK (j.ex _ _ h3)
    have hvl : kvs.length = vs.length := Paired.length kv
    obtain ⟨es2, ep2, ⟨o2, ho2, hx2, hd2⟩, hsz2, hk2⟩ := Heap.DictOf.raw hm.dictOf
    have at_ : ∀ (i : Nat) (k1 : Key) (v1 : V) (en : DictEntry), kvs[i]? = some (k1, v1) → es2[i]? = some en → RelV (kV k1) en.key ∧ RelV v1 en.val := fun i k1 v1 en e1 e2 => by
      obtain ⟨u, e3, ru⟩ := kv_get kv e1
      obtain ⟨hi, e4⟩ := Array.getElem?_eq_some_iff.mp e2
      have := hk2 i hi k1 u e3
      rw [e4] at this
      exact ⟨relV_key this.1, by rw [this.2]; exact ru⟩
    refine ⟨reads_dict I j.ex (kx := kvs.map fun p => kV p.1) (vx := kvs.map (·.2)) ho2 hx2 hd2 ?_ ?_ (datK_keys h4) (datK_vals h4) rk, hs⟩
    · refine vals_of_get (by rw [List.length_map, List.length_map, hvl, ← hsz2]; exact (Array.length_toList).symm) fun i a b ha hb => ?_
      rw [List.getElem?_map] at ha hb
      obtain ⟨⟨k1, v1⟩, e1, rfl⟩ := Option.map_eq_some_iff.mp ha
      obtain ⟨en, e2, rfl⟩ := Option.map_eq_some_iff.mp hb
      rw [Array.getElem?_toList] at e2
      exact (at_ i k1 v1 en e1 e2).1
    · refine vals_of_get (by rw [List.length_map, List.length_map, hvl, ← hsz2]; exact (Array.length_toList).symm) fun i a b ha hb => ?_
      rw [List.getElem?_map] at ha hb
      obtain ⟨⟨k1, v1⟩, e1, rfl⟩ := Option.map_eq_some_iff.mp ha
      obtain ⟨en, e2, rfl⟩ := Option.map_eq_some_iff.mp hb
      rw [Array.getElem?_toList] at e2
      exact (at_ i k1 v1 en e1 e2).2
  | @dT a od kvs ks h3 h4 =>
    obtain ⟨hgd, z, hs, xs, pr, o', es, ep, ho, hx, hdt, he, _⟩ := I.hok a _ (j.ex _ _ h3)
    rw [hgd] at ho
    cases ho
    have hxl : kvs.length = xs.length := Paired.length pr
    have hel : es.size = xs.length := size_of_entries he
    have hkeys : es.toList.map (·.key) = (xs.map fun x => x.2.1).map Value.ref := by rw [he, List.map_map, List.map_map]; rfl
    obtain ⟨G2, g2, d2⟩ := Gr.tupKs j (qs := xs.map fun x => x.2.1) (kk := kvs.map (·.1)) (by rw [List.length_map, List.length_map]; exact hxl.symm) fun i q kk e1 e2 => by
      rw [List.getElem?_map] at e1 e2
      obtain ⟨⟨k1, v1⟩, e3, rfl⟩ := Option.map_eq_some_iff.mp e2
      obtain ⟨b, hb, r1, r2, r3⟩ := paired_get pr e3
      rw [hb] at e1
      cases e1
      exact r2
    rw [datT_keys h4] at d2
    refine ⟨reads_dict I g2.j.ex (kx := (xs.map fun x => x.2.1).map V.ref) (vx := kvs.map (·.2)) hgd hx hdt ?_ ?_ d2 ((datT_vals h4).mono g2.ex) rk, hs⟩
    · rw [hkeys]
      exact vals_refs _
    · refine vals_of_get (by rw [List.length_map, List.length_map, hxl, ← hel]; exact (Array.length_toList).symm) fun i a b ha hb => ?_
      rw [List.getElem?_map] at ha hb
      obtain ⟨⟨k1, v1⟩, e1, rfl⟩ := Option.map_eq_some_iff.mp ha
      obtain ⟨en, e2, rfl⟩ := Option.map_eq_some_iff.mp hb
      obtain ⟨b, hb2, r1, r2, r3⟩ := paired_get pr e1
      rw [he, List.getElem?_map, hb2] at e2
      cases e2
      exact r3
theorem rk_one {d : PyData} {u : Value} {as : List Addr} (r : Reads s.heap u d as) (hs : d.showable = true) (hz : d.shown.length ≤ sizeLine) (hd : d.hasDict = true → sysModules ∉ as) :
    ∃ as bs, Reads s.heap u d as ∧ ReadAtMost s.heap d.depth bs ∧ ReprK X.prog X.w bs s.heap d.depth u d.shown := by
  obtain ⟨bs, h1, h2⟩ := ReprK.of_reads (prog := X.prog) (w := X.w) r hs hd hz
  exact ⟨as, bs, r, h1, h2⟩
theorem bs_max {m n k : Nat} {bs cs : List Addr} (h1 : ReadAtMost s.heap m bs) (h2 : ReadAtMost s.heap n cs) (e1 : m ≤ k) (e2 : n ≤ k) : ReadAtMost s.heap k (bs ++ cs) := (h1.mono e1).append (h2.mono e2)
mutual
theorem rkX (I : Inv X pins σ H s) (j : Jn X.K B G H) : ∀ (d : D) (v : V) (u : Value), rich d = true → wtX d ≤ 15000000 → Dat X.K B G v d → RelV v u → ∃ as bs, Reads s.heap u (pyX d) as ∧ ReadAtMost s.heap (pyX d).depth bs ∧ ReprK X.prog X.w bs s.heap (pyX d).depth u (pyX d).shown
  | .non, _, _, h, hw, .non, r => by
    cases r
    exact rk_one .none (pyX_show _ h) (Nat.le_trans (pyX_len _ h) (Nat.le_trans hw (by rw [sizeLine_eq]; decide))) (fun z => by cases z)
  | .bl b, _, _, h, hw, .bl _, r => by
    cases r
    exact rk_one (.bool b) (pyX_show _ h) (Nat.le_trans (pyX_len _ h) (Nat.le_trans hw (by rw [sizeLine_eq]; decide))) (fun z => by cases z)
  | .int i, _, _, h, hw, .int _, r => by
    obtain ⟨t, rfl⟩ := r
    exact rk_one (.int i t) (pyX_show _ h) (Nat.le_trans (pyX_len _ h) (Nat.le_trans hw (by rw [sizeLine_eq]; decide))) (fun z => by cases z)
  | .str x, _, _, h, hw, .str _, r => by
    obtain ⟨t, rfl⟩ := r
    exact rk_one (.str x t) (pyX_show _ h) (Nat.le_trans (pyX_len _ h) (Nat.le_trans hw (by rw [sizeLine_eq]; decide))) (fun z => by cases z)
  | .dic ks, v, _, h, hw, hd, r => by
    have k := repK_of (show repKb ks = true by simpa [rich] using h)
    obtain ⟨a, rfl⟩ : ∃ a, v = .ref a := by cases hd <;> exact ⟨_, rfl⟩
    cases r
    obtain ⟨rd, hs⟩ := reads_dic I j k.1 hd
    exact rk_one rd (pyX_show _ h) (Nat.le_trans (pyX_len _ h) (Nat.le_trans hw (by rw [sizeLine_eq]; decide))) (fun _ m => by
      rw [List.mem_singleton] at m
      subst m
      simp at hs)
  | .lst xs, _, _, h, hw, .lst (a := a) h1 t1, r => by
    cases r
    have h' : richs xs = true := by simpa [rich] using h
    have hz := Nat.le_trans (pyX_len _ h) (Nat.le_trans hw (show 15000000 ≤ sizeLine by rw [sizeLine_eq]; decide))
    rw [wtX] at hw
    obtain ⟨its, rv, ⟨o, n, ho, hc, _, hdt⟩, _⟩ := I.list (sq_of (j.ex _ _ h1))
    obtain ⟨as, bs, q1, q2, q3⟩ := rkXs I j xs _ its h' (by omega) t1 rv
    have q0 : Reads s.heap (.ref a) (.list (pyXs xs)) (a :: as) := .list ho hc hdt q1
    have hn : a ∉ bs := not_mem_of_deeper q0 (by simp only [PyData.depth]; omega) q2
    refine ⟨_, a :: bs, q0, ReadAtMost.cons (n := PyData.depthAll (pyXs xs)) q0 (by simp only [pyX, PyData.depth]; omega) q2, ?_⟩
    rw [pyX, PyData.depth, PyData.shown]
    cases its with
    | nil =>
      cases rv
      cases t1
      rw [pyXs, PyData.shownAll, listText_nil]
      exact ReprK.listEmpty ho hc hdt
    | cons y ys => exact ReprK.list ho hc hdt hn (by simpa using q3.length_eq) fun i z ez => q3.item i z (by simpa using ez)
  | .tup xs, _, _, h, hw, .tup (a := a) h1 t1, r => by
    cases r
    have h' : richs xs = true := by simpa [rich] using h
    rw [wtX] at hw
    obtain ⟨its, rv, ⟨o, ho, hc, n, hdt⟩, _⟩ := I.tuple (tx j.ex h1)
    obtain ⟨as, bs, q1, q2, q3⟩ := rkXs I j xs _ its h' (by omega) t1 rv
    have q0 : Reads s.heap (.ref a) (.tuple (pyXs xs)) as := .tuple ho hc hdt q1
    have hn : a ∉ bs := not_mem_of_deeper q0 (by simp only [PyData.depth]; omega) q2
    refine ⟨_, a :: bs, q0, ReadAtMost.cons (n := PyData.depthAll (pyXs xs)) q0 (by simp only [pyX, PyData.depth]; omega) q2, ?_⟩
    rw [pyX, PyData.depth, PyData.shown]
    exact ReprK.tuple ho hc hdt hn q3
  | .obj _ _, _, _, h, _, _, _ => by simp [rich] at h
  | .bag, _, _, h, _, _, _ => by simp [rich] at h
  | .ktup _, _, _, h, _, _, _ => by simp [rich] at h
theorem rkXs (I : Inv X pins σ H s) (j : Jn X.K B G H) : ∀ (ds : List D) (vs : List V) (us : List Value), richs ds = true → wtXs ds ≤ 15000000 → Dats X.K B G vs ds → Vals vs us →
    ∃ as bs, ReadsAll s.heap us (pyXs ds) as ∧ ReadAtMost s.heap (PyData.depthAll (pyXs ds)) bs ∧ ReprAllK X.prog X.w bs s.heap (PyData.depthAll (pyXs ds)) us (PyData.shownAll (pyXs ds))
  | [], _, _, _, _, .nil, r => by
    cases r
    exact ⟨[], [], .nil, fun _ h => (nomatch h), .nil⟩
  | d :: ds, _, _, h, hw, .cons h1 t1, r => by
    have h' : rich d = true ∧ richs ds = true := by simpa [richs] using h
    rw [wtXs] at hw
    cases r with
    | cons r1 r2 =>
      obtain ⟨as, bs, q1, q2, q3⟩ := rkX I j d _ _ h'.1 (by omega) h1 r1
      obtain ⟨as2, bs2, p1, p2, p3⟩ := rkXs I j ds _ _ h'.2 (by omega) t1 r2
      rw [pyXs, PyData.depthAll, PyData.shownAll]
      exact ⟨as ++ as2, bs ++ bs2, .cons q1 p1, bs_max q2 p2 (Nat.le_max_left _ _) (Nat.le_max_right _ _),
        .cons ((q3.more fun b hb => List.mem_append_left _ hb).level_le (Nat.le_max_left _ _)) (p3.more_le (fun b hb => List.mem_append_right _ hb) (Nat.le_max_right _ _))⟩
end
end
def richX (d : D) : Bool := rich d && (decide (depX d ≤ 69) && decide (wtX d ≤ 15000000))
def oEqX : O2 := fun x y Q => ((∃ xs, (x = .lst xs ∨ x = .tup xs) ∧ y = x ∧ richX x = true) ∧ Q (.bl true)) ∨ oEqA x y Q
def cReprX : FD := fun ds Q => ((∃ x xs, ds = [x] ∧ (x = .lst xs ∨ x = .tup xs) ∧ richX x = true ∧ Q (.str (pyX x).shown))) ∨ cReprA ds Q
theorem richX_of {d : D} (h : richX d = true) : rich d = true ∧ depX d ≤ 69 ∧ wtX d ≤ 15000000 := by
  unfold richX at h
  rw [Bool.and_eq_true, Bool.and_eq_true] at h
  exact ⟨h.1, of_decide_eq_true h.2.1, of_decide_eq_true h.2.2⟩
theorem op_eqX {X : Cx} {B : Bx} (hu : X.A.units + 70 < cLine) : OpR X (compareOp .Eq) (rLift X.K B oEqX) := by
  intro pins s σ H x y v u P I rx ry h
  obtain ⟨G, dx, dy, Q, j, hx, hy, hq, k⟩ := h
  rcases hq with ⟨⟨xs, hxs, rfl, hr⟩, q⟩ | hq
  · obtain ⟨r, hd, _⟩ := richX_of hr
    have fin := k _ _ G H q (Gr.refl j) (.bl _)
    rcases hxs with rfl | rfl
    · cases hx with
      | lst h1 t1 =>
        cases hy with
        | lst h2 t2 =>
          cases rx
          cases ry
          rw [depX] at hd
          exact lstX_run I j.ex xs X.A (by simpa [rich] using r) (by omega) h1 h2 t1 t2 _ _ ⟨.bl true, H, I, rfl, fin⟩
    · cases hx with
      | tup h1 t1 =>
        cases hy with
        | tup h2 t2 =>
          cases rx
          cases ry
          rw [depX] at hd
          exact tupX_run I j.ex xs X.A (by simpa [rich] using r) (by omega) h1 h2 t1 t2 _ _ ⟨.bl true, H, I, rfl, fin⟩
  · exact op_eqA (by omega) pins s σ H x y v u P I rx ry ⟨G, dx, dy, Q, j, hx, hy, hq, k⟩
theorem call_reprX {X : Cx} {B : Bx} (hg : X.A.guards = some []) (hu : X.A.units + 70 < cLine) : CallR X (.builtin "repr") (cLift X.K B cReprX) := by
  intro pins s σ H vs us P I rv h
  obtain ⟨G, ds, Q, j, hd, hq, k⟩ := h
  rcases hq with ⟨x, xs, rfl, hxs, hr, q⟩ | hq
  · obtain ⟨r, hdp, hw⟩ := richX_of hr
    have hz : (pyX x).shown.length ≤ sizeLine := Nat.le_trans (pyX_len _ r) (Nat.le_trans hw (by rw [sizeLine_eq]; decide))
    have hdd := pyX_dep _ r
    cases hd with
    | cons h1 h2 =>
      cases h2
      obtain ⟨u, rfl, ru⟩ := vals1 rv
      have fin := k _ _ G H q (Gr.refl j) (.str _)
      rcases hxs with rfl | rfl
      · cases h1 with
        | lst h1 t1 =>
          cases ru
          have h' : richs xs = true := by simpa [rich] using r
          rw [wtX] at hw
          obtain ⟨its, rv2, ⟨o, n, ho, hc, _, hdt⟩, _⟩ := I.list (sq_of (j.ex _ _ h1))
          obtain ⟨as, bs, q1, q2, q3⟩ := rkXs I j xs _ its h' (by omega) t1 rv2
          have hn : _ ∉ bs := not_mem_of_deeper (.list ho hc hdt q1) (by simp only [PyData.depth]; omega) q2
          refine call_repr_slot (by omega) ⟨o, ho, hc⟩ F.slot_list_repr.toG ?_
          rw [pyX, PyData.shown] at fin hz
          simp only [pyX, PyData.depth] at hdd
          cases its with
          | nil =>
            cases rv2
            cases t1
            rw [pyXs, PyData.shownAll, listText_nil] at fin
            exact call_list_repr_empty ⟨o, ho, hc⟩ ho hdt ⟨_, _, rfl, ⟨.str _, H, I.tok _, ⟨_, rfl⟩, fin⟩⟩
          | cons y ys => exact call_list_reprK ho hc hdt hn (by simpa using q3.length_eq) (fun i z ez => q3.item i z (by simpa using ez)) hg (fun b _ => Clear.nil b) (by show X.A.units + 1 + _ < _; omega) (fun _ _ e => e) (fun h' u tk hk => ⟨_, _, rfl, ⟨.str _, H, I.kept hk, ⟨_, rfl⟩, fin⟩⟩) hz
      · cases h1 with
        | tup h1 t1 =>
          cases ru
          have h' : richs xs = true := by simpa [rich] using r
          rw [wtX] at hw
          obtain ⟨its, rv2, ⟨o, ho, hc, n, hdt⟩, _⟩ := I.tuple (tx j.ex h1)
          obtain ⟨as, bs, q1, q2, q3⟩ := rkXs I j xs _ its h' (by omega) t1 rv2
          have hn : _ ∉ bs := not_mem_of_deeper (.tuple ho hc hdt q1) (by simp only [PyData.depth]; omega) q2
          refine call_repr_slot (by omega) ⟨o, ho, hc⟩ F.slot_tuple_repr ?_
          rw [pyX, PyData.shown] at fin hz
          simp only [pyX, PyData.depth] at hdd
          exact call_tuple_reprK ho hc hdt hn q3 hg (fun b _ => Clear.nil b) (by show X.A.units + 1 + _ < _; omega) (fun _ _ e => e) (fun h' u tk hk => ⟨_, _, rfl, ⟨.str _, H, I.kept hk, ⟨_, rfl⟩, fin⟩⟩) hz
  · exact call_reprA hg (by omega) pins s σ H vs us P I rv ⟨G, ds, Q, j, hd, hq, k⟩
section
variable {Q : D → Prop} {x y : D} {ds : List D}
theorem z_eqX : oEqX x y Q = (((∃ xs, (x = .lst xs ∨ x = .tup xs) ∧ y = x ∧ richX x = true) ∧ Q (.bl true)) ∨ oEqA x y Q) := propext Iff.rfl
theorem z_rpX : cReprX ds Q = ((∃ x xs, ds = [x] ∧ (x = .lst xs ∨ x = .tup xs) ∧ richX x = true ∧ Q (.str (pyX x).shown)) ∨ cReprA ds Q) := propext Iff.rfl
end
end DL
namespace DL
open PySem PySem.Spec PyProof.Rows L2 Evl
end DL
namespace DL
open PySem PySem.Spec PyProof.Rows L2 LamX
def TThE (K : PySem.W.Frag) (B : Bx) (w0 : Str) (okc : Nat → Bool) (hd : Nat → Str → D → Option D) : (XK → Hp → VK → Prop) → Hp → VK → Prop := fun tl H Q => ∃ (G : Hp) (Wx : XW) (S : D → Prop), B.up = some (G, H) ∧
  tl (XL K B Wx) H (fun _ H2 => [V.str w0, V.non].length ≤ sizeLine ∧ ∀ p, H2 p = none → Q (.ref p) (upd H2 p (.tup [.str w0, .non]))) ∧ (∀ c f y, Wx c f y → okc c = true ∧ ∃ o, hd c f y = some o ∧ S o) ∧ ∀ o v G2 H2, S o → Gr K B G H G2 H2 → Dat K B G2 v o → Q v H2
theorem heard_givesE {X : Cx} {B : Bx} {Ng : List Str} {x a e en q w0 : Str} {sg : Scope} {g CS : Addr} {cdg : Value} {j1 j2 j3 i : Nat} {b₀ : Stmt} {suite : List Stmt} {okc : Nat → Bool} {hd : Nat → Str → D → Option D} {p1 p2 p3 p4 p5 p6 p7 p8 p9 p10 : Pos}
    (hge : sg.names.lookup e = some .globalImplicit) (hme : X.mg e = some (.ref CS)) (hde : (e == ("__debug__" : Str)) = false) (hN : Ng.Nodup) (hi : Ng[i]? = some en) (hln : sg.names.lookup en = some .local) (h0 : ∀ f : Addr, (L2.start Ng [V.ref f])[0]? = some (some (V.ref f)))
    (hx : ∀ c, okc c = true → PySem.W.exmOne X.K (.ref (B.ct c)) (.ref CS) = some true)
    (hsu : ∀ (s : Shared) (H : Hp) (c : Nat) (f : Str) (y : D) (a dd : Addr) (oe : Obj) (pn : List (Addr × Obj)), okc c = true → Zc (.ref (B.ct c)) (some dd) oe → (∃ vs, oe.data = .fields vs) →
      PSs ((cxOf C8.CX0 X.prog X.w X.K X.mg X.base Ng x sg g cdg X.A X.stack s H C8.E0).nox.suite a ((a, oe) :: pn)) (b₀ :: suite) (tVS X.K B a dd f y i (hd c f y))) :
    GivesTo X Ng x sg g cdg [.Try [.Expr (.Call (.Name a p2) [] [] p3) p5] [.ExceptHandler (some (.Name e p6)) (some en) (b₀ :: suite) p7] [] [] p8, .Return (some (.Tuple [.Constant (.str w0) j1 p1, .Constant .none j3 p9] j2 p4)) p10] a q (TThE X.K B w0 okc hd) := by
  intro f c' s H Q tl act hc h
  have hgl : Gl (cxOf C8.CX0 X.prog X.w X.K X.mg X.base Ng x sg g cdg X.A X.stack s H C8.E0).nox e := hge
  refine ⟨_, pss_cons (ps_try_as (X := (cxOf C8.CX0 X.prog X.w X.K X.mg X.base Ng x sg g cdg X.A X.stack s H C8.E0).nox) (c := .ref CS) (i := i) (n := en)
      (tb := fun W De σ H => ∃ Ech : XK, (∀ cls d σ' H', Ech cls d H' → W cls d σ' H') ∧ σ[0]? = some (some (.ref f)) ∧ H c' = some (CodeO c' q) ∧ tl Ech H (fun _ H2 => De.nx σ H2))
      (ts := fun a cls d De σ H => (i < σ.length → σ[i]? = some (some (.ref a))) ∧ ∃ (G : Hp) (c : Nat) (f : Str) (y : D) (v : V) (dd : Addr) (o : D), okc c = true ∧ hd c f y = some o ∧ Jn X.K B G H ∧ cls = .ref (B.ct c) ∧ d = some dd ∧ H dd = some (.xd [(f, v)]) ∧ Dat X.K B G v y ∧
        ∀ w G2 H2, Gr X.K B G H G2 H2 → Dat X.K B G2 w o → De.rt w H2)
      rfl rfl hN hi hln ⟨hgl, hde, .inl hme⟩ L2.takes0 (fun W pn xe tk _ => ?_) (fun a oe cls d pn hz hf => ?_)) (pss_one (ps_ret (pos := p10) (pe_tup (pos := p4) (x1 := j2) (pa_cons (pe_str (x := w0) (j := j1) (pos := p1)) (pa_cons (pe_non (j := j3) (pos := p9)) pa_nil))))), ?_⟩
  · refine ⟨fun pins s' σ H' D I h' => ?_⟩
    obtain ⟨Ech, hW, h1, h2, h3⟩ := h'
    have hp := act W pn xe Ech p2 p3 tk hW
    have hq := pss_one (ps_expr (pos := p5) hp)
    exact hq.run pins s' σ H' D I ⟨h1, h2, h3⟩
  · refine ⟨fun pins s' σ H' D I h' => ?_⟩
    obtain ⟨hl, G, c, f, y, v, dd, o, hok, ho, j, rfl, rfl, hdd, hy, k⟩ := h'
    have hil : i < σ.length := by
      rw [I.len]
      exact (List.getElem?_eq_some_iff.mp hi).1
    exact (hsu s H c f y a dd oe pn hok hz hf).run pins s' σ H' D I ⟨G, v, o, ho, j, hl hil, hdd, hy, k⟩
  · obtain ⟨G, Wx, S, hu, htl, hWx, k⟩ := h
    refine ⟨XL X.K B Wx, fun cls d σ' H' xl => ?_, h0 f, hc, htl⟩
    obtain ⟨G', c, fl, y, v, dd, hw, j, rfl, rfl, hdd, hy⟩ := xl
    obtain ⟨hok, o, ho, hS⟩ := hWx c fl y hw
    refine ⟨true, hx c hok, fun _ a na => ?_, fun z => by cases z⟩
    refine ⟨fun hl => List.getElem?_set_self (by rw [List.length_set] at hl; exact hl), G', c, fl, y, v, dd, o, hok, ho, j, rfl, rfl, hdd, hy, fun w G2 H2 g h => ?_⟩
    exact k o w G2 H2 hS ((anc_gr hu j).trans g) h
def dHeardE (w0 : Str) (okc : Nat → Bool) (hd : Nat → Str → D → Option D) (r : XW → DE) : DE := fun δ Q => r (fun c f y => okc c = true ∧ ∃ o, hd c f y = some o ∧ Q o) (shOnly δ) fun _ => Q (.tup [.str w0, .non])
section
variable {X : Cx} {B : Bx}
theorem pd_heardE {x a e en w0 : Str} {g c P CS : Addr} {k i : Nat} {pg : Arguments} {b₀ : Stmt} {suite : List Stmt} {sg : Scope} {dV kV doc pm cdv ct oc : Value} {an od : Option Addr} {osl : Array (Option Value)} {Ng : List Str} {okc : Nat → Bool} {hd : Nat → Str → D → Option D} {r : XW → DE} {j1 j2 j3 : Nat} {q1 q2 q3 q4 q5 q6 q7 q8 q9 q10 : Pos}
    {params : Arguments} {body : Expr} {scope : Scope} {p lpos pos : Pos} (hg : Gl X x) (hm : X.mg x = some (.ref g)) (hk : PySem.W.keepIn X.K (.ref g) = true)
    (lk : X.K.lookup g = some ⟨oc, od, .func (PySem.W.fnOf x x pg [.Try [.Expr (.Call (.Name a q2) [] [] q3) q5] [.ExceptHandler (some (.Name e q6)) (some en) (b₀ :: suite) q7] [] [] q8, .Return (some (.Tuple [.Constant (.str w0) j1 q1, .Constant .none j3 q9] j2 q4)) q10] sg dV kV doc pm an cdv ct), osl⟩)
    (hcg : PySem.W.codeIn X.K cdv x = true) (hb : L2.Binds X.K (PySem.W.fnOf x x pg [.Try [.Expr (.Call (.Name a q2) [] [] q3) q5] [.ExceptHandler (some (.Name e q6)) (some en) (b₀ :: suite) q7] [] [] q8, .Return (some (.Tuple [.Constant (.str w0) j1 q1, .Constant .none j3 q9] j2 q4)) q10] sg dV kV doc pm an cdv ct) [a] []) (Sg : FnScope Ng [a] sg) (hNg : Ng[0]? = some a) (hva : Vis sg a)
    (hge : sg.names.lookup e = some .globalImplicit) (hme : X.mg e = some (.ref CS)) (hi : Ng[i]? = some en) (hln : sg.names.lookup en = some .local)
    (hx : ∀ c, okc c = true → PySem.W.exmOne X.K (.ref (B.ct c)) (.ref CS) = some true)
    (hsu : ∀ (u : Option (Hp × Hp)) (s : Shared) (H : Hp) (c : Nat) (f : Str) (y : D) (a dd : Addr) (oe : Obj) (pn : List (Addr × Obj)), okc c = true → Zc (.ref (B.ct c)) (some dd) oe → (∃ vs, oe.data = .fields vs) →
      PSs ((cxOf C8.CX0 X.prog X.w X.K X.mg X.base Ng x sg g cdv X.A X.stack s H C8.E0).nox.suite a ((a, oe) :: pn)) (b₀ :: suite) (tVS X.K (B.at u) a dd f y i (hd c f y)))
    (TB : TabB X.base X.mg c P) (hcode : X.env.code = .ref c) (hmT : (P, X.env.qual ++ "<lambda>") ∈ B.tb) (hu : ∀ t ∈ B.tb, t.1 = P → t.2 = X.env.qual ++ "<lambda>") (hr : Room (k + 2) X.A) (L : LamS X.env.scope scope) (hdef : defaultsOf params X.env = ([], []))
    (hbind : ∀ (q : Str) (cl : List (Str × Addr)) (pm cv ctv : Value), bindArgs (PySem.W.kla_fn "<lambda>" q params body scope cl pm cv ctv) ⟨[], []⟩ = pure [])
    (hbody : ∀ (A : Around) (outer : List Env) (s : Shared) (H : Hp) (E : XK) (f c' : Addr) (u : Option (Hp × Hp)) (Wx : XW), Room k (A.deeper (lamEnv X scope s.heap.objs.size f c')) → TkX (lamCx X A outer s H E scope f c') (B.at u) Wx → PD (lamCx X A outer s H E scope f c') (B.at u) body (r Wx))
    (hdb : (x == ("__debug__" : Str)) = false := by decide) (hd1 : (a == ("__debug__" : Str)) = false := by decide) (hcd : (a == ("__classdict__" : Str)) = false := by decide) (hde : (e == ("__debug__" : Str)) = false := by decide) :
    PD X B (.Call (.Name x p) [.Lambda params body scope lpos] [] pos) (dHeardE w0 okc hd r) := by
  refine ⟨fun pins s σ H Q I h => ?_⟩
  obtain ⟨H0, G, δ, R, j, st, hr0, kk⟩ := h
  refine wpAny_Call_Name_kw (ld_glob I hg hm ?_ hdb)
  refine PySem.W.callWith_K (h₀ := X.base) I.ok.mod.kin hk ?_ (by rfl) (by rfl)
  show wpAny _ _ (spliced ((false, eval (.Lambda params body scope lpos) X.env) :: backTo pos (starEach [] X.env))) _ _ s
  have tabs : TabS H P (X.env.qual ++ "<lambda>") := by
    obtain ⟨⟨ps, z1, z2, z3⟩, _⟩ := j.xt.tb _ hmT
    exact ⟨ps, z1, z2, fun pos cv z => let ⟨c, e1, e2⟩ := z3 pos cv z; ⟨c, e1, j.ex _ _ e2⟩⟩
  refine Calls.spliced_cons (lam_mk I TB hcode tabs hdef (L.has I.ok) fun f c' pm' ctv H1 s' I1 mk hf hfn hfr hco => ?_)
  refine Calls.spliced_nil ⟨I1.kIn, ?_⟩
  obtain ⟨G1, g1⟩ := Gr.tab j hmT hu mk
  have st1 := st.gr g1
  have base : ∀ {G2 H2 : Hp}, Jn X.K (B.at (some (G1, H1))) G2 H2 → Gr X.K B G H G2 H2 := fun jj => g1.trans (Gr.weigh g1.j jj)
  obtain ⟨tE, htE⟩ : ∃ tE : XK → TE, tE = fun (E : XK) (σ : L2.St) (H : Hp) (Q : VK) => ∃ (u : Option (Hp × Hp)) (Wx : XW), (∀ cls d H', XL X.K (B.at u) Wx cls d H' → E cls d H') ∧ liftE X.K (B.at u) (r Wx) σ H Q := ⟨_, rfl⟩
  have told : TThE X.K (B.at (some (G1, H1))) w0 okc hd (fun E H' Q' => tE E σ H' Q') H1 Q := by
    rw [htE]
    refine ⟨G1, _, R, rfl, ⟨some (G1, H1), _, fun _ _ _ h => h, H1, G1, shOnly δ, _, g1.j.anchor, st1.plain _, hr0, fun d v G2 H2 q2 g2 h2 => ⟨by rw [sizeLine_eq]; show 2 ≤ 16777216; omega, fun p hp => ?_⟩⟩, fun c f y h => h, fun o v G2 H2 ho gg hh => kk o v G2 H2 ho (base gg.j) hh.ofAt⟩
    have gb := base g2.j
    have gn := Gr.new (o := .tup [.str w0, .non]) gb.j hp
    exact kk _ _ _ _ q2 (gb.trans gn) (.tup upd_same (.cons (.str _) (.cons .non .nil)))
  have rc : codeAny (model X.prog X.w) X.A (.call (.ref g) ⟨[.ref f], []⟩) (CR C8.CX0 X.stack X.prog X.w H1 s' Q C8.E0) s' := by
    refine run_ofS (N := Ng) (ps := [a]) (us := [.ref f]) (vs := [.ref f]) lk hcg Sg hr I1.env0 (hb s' [.ref f] I1.kIn rfl) (.cons rfl .nil) rfl fun hr' => ?_
    obtain ⟨t', ht', hq'⟩ := heard_givesE (X := X) (B := B.at (some (G1, H1))) (q := X.env.qual ++ "<lambda>") hge hme hde Sg.nd hi hln (fun f => by
        unfold L2.start
        rfl) hx (hsu _) f c' s' H1 Q (fun E H' Q' => tE E σ H' Q') (fun W pn xe E p1 p2 tk hW => pe_act (i := 0) (tb := tE E) I1 L hf hfn hfr (hbind _ _ _ _ _) tk hW hr' (fun A outer s H hr2 => ⟨fun pins s2 σ2 H2 Q2 I2 h2 => by
          rw [htE] at h2
          obtain ⟨u, Wx, hE, h3⟩ := h2
          exact (hbody A outer s H E f c' u Wx hr2 ⟨_, takes_of (E := E) rfl rfl rfl rfl, fun cls d σ' H' z => hE cls d H' z⟩).run pins s2 σ2 H2 Q2 I2 h3⟩) hNg hva hd1 hcd) hco told
    exact ⟨t', ht'.nox, hq'⟩
  refine wpAny_call (codeAny_mono rc fun r s2 hq => ?_)
  cases r with
  | error e => exact (show False from hq).elim
  | ok fl =>
    cases fl with
    | ret u => exact I1.after hq
    | next => exact False.elim hq
    | brk => exact False.elim hq
    | cont => exact False.elim hq
end
def handBodyE (st : Stmt) : List Stmt := match defBody st with
  | [.Try _ [.ExceptHandler _ _ b _] _ _ _, _] => b
  | _ => []
section
variable {X : Cx} {B : Bx}
theorem pd_heardTE {x a e en w0 : Str} {c P CS : Addr} {k i : Nat} {b₀ : Stmt} {suite : List Stmt} {st : Stmt} {Ng : List Str} {okc : Nat → Bool} {hd : Nat → Str → D → Option D} {r : XW → DE} {j1 j2 j3 : Nat} {q1 q2 q3 q4 q5 q6 q7 q8 q9 q10 : Pos}
    {params : Arguments} {body : Expr} {scope : Scope} {p lpos pos : Pos} (Th : DefAt X.K X.mg x st [a]) (hbd : defBody st = [.Try [.Expr (.Call (.Name a q2) [] [] q3) q5] [.ExceptHandler (some (.Name e q6)) (some en) (b₀ :: suite) q7] [] [] q8, .Return (some (.Tuple [.Constant (.str w0) j1 q1, .Constant .none j3 q9] j2 q4)) q10])
    (hg : Gl X x) (Sg : FnScope Ng [a] (defScope st)) (hNg : Ng[0]? = some a) (hva : Vis (defScope st) a)
    (hge : (defScope st).names.lookup e = some .globalImplicit) (hme : X.mg e = some (.ref CS)) (hi : Ng[i]? = some en) (hln : (defScope st).names.lookup en = some .local)
    (hx : ∀ c, okc c = true → PySem.W.exmOne X.K (.ref (B.ct c)) (.ref CS) = some true)
    (hsu : ∀ (g : Addr) (cdv : Value) (u : Option (Hp × Hp)) (s : Shared) (H : Hp) (c : Nat) (f : Str) (y : D) (a dd : Addr) (oe : Obj) (pn : List (Addr × Obj)), okc c = true → Zc (.ref (B.ct c)) (some dd) oe → (∃ vs, oe.data = .fields vs) →
      PSs ((cxOf C8.CX0 X.prog X.w X.K X.mg X.base Ng x (defScope st) g cdv X.A X.stack s H C8.E0).nox.suite a ((a, oe) :: pn)) (handBodyE st) (tVS X.K (B.at u) a dd f y i (hd c f y)))
    (TB : TabB X.base X.mg c P) (hcode : X.env.code = .ref c) (hmT : (P, X.env.qual ++ "<lambda>") ∈ B.tb) (hu : ∀ t ∈ B.tb, t.1 = P → t.2 = X.env.qual ++ "<lambda>") (hr : Room (k + 2) X.A) (L : LamS X.env.scope scope) (hdef : defaultsOf params X.env = ([], []))
    (hbind : ∀ (q : Str) (cl : List (Str × Addr)) (pm cv ctv : Value), bindArgs (PySem.W.kla_fn "<lambda>" q params body scope cl pm cv ctv) ⟨[], []⟩ = pure [])
    (hbody : ∀ (A : Around) (outer : List Env) (s : Shared) (H : Hp) (E : XK) (f c' : Addr) (u : Option (Hp × Hp)) (Wx : XW), Room k (A.deeper (lamEnv X scope s.heap.objs.size f c')) → TkX (lamCx X A outer s H E scope f c') (B.at u) Wx → PD (lamCx X A outer s H E scope f c') (B.at u) body (r Wx))
    (hdb : (x == ("__debug__" : Str)) = false := by decide) (hd1 : (a == ("__debug__" : Str)) = false := by decide) (hcd : (a == ("__classdict__" : Str)) = false := by decide) (hde : (e == ("__debug__" : Str)) = false := by decide) :
    PD X B (.Call (.Name x p) [.Lambda params body scope lpos] [] pos) (dHeardE w0 okc hd r) := by
  obtain ⟨oc, od, kV, doc, pm, an, cdv, ct, osl, efd, lk, hcg⟩ := Th.fn.ex
  have bd := Th.bd
  have hh : handBodyE st = b₀ :: suite := by
    unfold handBodyE
    rw [hbd]
  rw [efd, hbd] at bd lk
  rw [hh] at hsu
  exact pd_heardE hg Th.at_ Th.fn.kp lk hcg bd Sg hNg hva hge hme hi hln hx (fun u s H c f y a dd oe pn => hsu _ _ u s H c f y a dd oe pn) TB hcode hmT hu hr L hdef hbind hbody hdb hd1 hcd hde
end
section
variable {w0 : Str} {okc : Nat → Bool} {hd : Nat → Str → D → Option D} {r : XW → DE} {δ : DS} {Q : D → Prop}
theorem z_heardE : dHeardE w0 okc hd r δ Q = r (fun c f y => okc c = true ∧ ∃ o, hd c f y = some o ∧ Q o) (shOnly δ) fun _ => Q (.tup [.str w0, .non]) := propext Iff.rfl
end
def oLeS : O2 := fun x y Q => match x, y with
  | .str a, .str b => Q (.bl (!decide (b.cps.toList < a.cps.toList)))
  | _, _ => False
section
variable {X : Cx} {B : Bx} {a b : Str} {Q : D → Prop}
theorem op_leS_d : OpR X (compareOp .LtE) (rLift X.K B oLeS) := by
  intro pins s σ H x y v u P I rx ry q
  obtain ⟨G, dx, dy, Q, j, hx, hy, hq, k⟩ := q
  cases hx with
  | str a =>
    cases hy with
    | str b => exact op_le_str pins s σ H _ _ v u P I rx ry ⟨a, b, rfl, rfl, k _ _ G H hq (Gr.refl j) (.bl _)⟩
    | _ => exact hq.elim
  | _ => exact hq.elim
theorem z_leS : oLeS (.str a) (.str b) Q = Q (.bl (!decide (b.cps.toList < a.cps.toList))) := propext Iff.rfl
end
end DL
namespace DL
open PySem PySem.Spec PyProof.Rows L2 Evl
theorem zHd0 : (type_of% @z_eqDD) ∧ (type_of% @z_reprD) ∧ (type_of% @z_eqAd) ∧ (type_of% @z_eqAl) ∧ (type_of% @z_eqAt) ∧ (type_of% @z_eqAi) ∧ (type_of% @z_eqAs) ∧ (type_of% @z_eqAb) ∧ (type_of% @z_eqAn) ∧ (type_of% @z_rpAd) ∧ (type_of% @z_rpAl) ∧ (type_of% @z_rpAt) ∧ (type_of% @z_rpAi) ∧ (type_of% @z_rpAs) ∧ (type_of% @z_rpAb) ∧ (type_of% @z_rpAn) ∧ (type_of% @z_rev) ∧ (type_of% @z_revL) ∧ (type_of% @z_dic0) ∧ (type_of% @z_neDD) ∧ (type_of% @z_raise) ∧ (type_of% @z_shOnly) ∧ (type_of% @z_shDs) ∧ (type_of% @z_shDn) ∧ (type_of% @z_isCA) ∧ (type_of% @z_isCAo) ∧ (type_of% @z_isCAn) ∧ (type_of% @z_isCAb) ∧ (type_of% @z_isCAi) ∧ (type_of% @z_isCAs) ∧ (type_of% @z_isCAl) ∧ (type_of% @z_isCAt) ∧ (type_of% @z_isCAd) ∧ (type_of% @z_ownA) ∧ (type_of% @z_ownNeA) ∧ (type_of% @z_chain) ∧ (type_of% @z_heardE) ∧ (type_of% @z_leS) := ⟨@z_eqDD, @z_reprD, @z_eqAd, @z_eqAl, @z_eqAt, @z_eqAi, @z_eqAs, @z_eqAb, @z_eqAn, @z_rpAd, @z_rpAl, @z_rpAt, @z_rpAi, @z_rpAs, @z_rpAb, @z_rpAn, @z_rev, @z_revL, @z_dic0, @z_neDD, @z_raise, @z_shOnly, @z_shDs, @z_shDn, @z_isCA, @z_isCAo, @z_isCAn, @z_isCAb, @z_isCAi, @z_isCAs, @z_isCAl, @z_isCAt, @z_isCAd, @z_ownA, @z_ownNeA, @z_chain, @z_heardE, @z_leS⟩
theorem zHp0 : (type_of% @z_toDs) := @z_toDs
end DL
namespace My
open PySem PySem.Spec PyProof.Rows L2 Evl DL
def topS (i : Nat) : Stmt := PySem.Challenge.pw_poleribbons_k50_colours_told.main.body.getD i (.Pass ⟨0, 0, 0, 0⟩)
abbrev s_Colours_moons : Stmt := inClass (topS 13) 3
theorem sc_Colours_moons : FnScope ["self"] ["self"] (defScope s_Colours_moons) := ⟨rfl, rfl, rfl, by decide +kernel, rfl, by decide +kernel, by decide +kernel⟩
abbrev s_Colours_suns : Stmt := inClass (topS 13) 2
theorem sc_Colours_suns : FnScope ["self"] ["self"] (defScope s_Colours_suns) := ⟨rfl, rfl, rfl, by decide +kernel, rfl, by decide +kernel, by decide +kernel⟩
abbrev s_shortest_round : Stmt := topS 12
theorem sc_shortest_round : FnScope ["text", "size"] ["text"] (defScope s_shortest_round) := ⟨rfl, rfl, rfl, by decide +kernel, rfl, by decide +kernel, by decide +kernel⟩
abbrev s_Colours___eq__ : Stmt := inClass (topS 13) 5
theorem sc_Colours___eq__ : FnScope ["self", "other", "mine", "its", "text"] ["self", "other"] (defScope s_Colours___eq__) := ⟨rfl, rfl, rfl, by decide +kernel, rfl, by decide +kernel, by decide +kernel⟩
abbrev s_are_colours : Stmt := topS 11
theorem sc_are_colours : FnScope ["thing", "sign"] ["thing"] (defScope s_are_colours) := ⟨rfl, rfl, rfl, by decide +kernel, rfl, by decide +kernel, by decide +kernel⟩
abbrev s_Colours___init__ : Stmt := inClass (topS 13) 1
theorem sc_Colours___init__ : FnScope ["self", "suns", "moons", "place", "thing"] ["self", "suns", "moons"] (defScope s_Colours___init__) := ⟨rfl, rfl, rfl, by decide +kernel, rfl, by decide +kernel, by decide +kernel⟩
abbrev s_is_integer : Stmt := topS 6
theorem sc_is_integer : FnScope ["thing"] ["thing"] (defScope s_is_integer) := ⟨rfl, rfl, rfl, by decide +kernel, rfl, by decide +kernel, by decide +kernel⟩
abbrev s_is_count : Stmt := topS 7
theorem sc_is_count : FnScope ["thing"] ["thing"] (defScope s_is_count) := ⟨rfl, rfl, rfl, by decide +kernel, rfl, by decide +kernel, by decide +kernel⟩
abbrev s_is_side : Stmt := topS 8
theorem sc_is_side : FnScope ["thing"] ["thing"] (defScope s_is_side) := ⟨rfl, rfl, rfl, by decide +kernel, rfl, by decide +kernel, by decide +kernel⟩
abbrev s_Colours_shown : Stmt := inClass (topS 13) 4
theorem sc_Colours_shown : FnScope ["self", "ribbon", "text"] ["self", "ribbon"] (defScope s_Colours_shown) := ⟨rfl, rfl, rfl, by decide +kernel, rfl, by decide +kernel, by decide +kernel⟩
abbrev s__law_bag : Stmt := topS 15
theorem sc__law_bag : FnScope ["_law_script", "_law_cell"] ["_law_script"] (defScope s__law_bag) := ⟨rfl, rfl, rfl, by decide +kernel, rfl, by decide +kernel, by decide +kernel⟩
abbrev s__law_take : Stmt := topS 16
theorem sc__law_take : FnScope ["_law_bag_here", "_law_many", "_law_cell", "_law_mixed", "_law_value", "_law_begin", "_law_second"] ["_law_bag_here", "_law_many"] (defScope s__law_take) := ⟨rfl, rfl, rfl, by decide +kernel, rfl, by decide +kernel, by decide +kernel⟩
abbrev s__law_pick : Stmt := topS 18
theorem sc__law_pick : FnScope ["_law_bag_here", "_law_things"] ["_law_bag_here", "_law_things"] (defScope s__law_pick) := ⟨rfl, rfl, rfl, by decide +kernel, rfl, by decide +kernel, by decide +kernel⟩
abbrev s__law_my_colours : Stmt := topS 19
theorem sc__law_my_colours : FnScope ["_law_bag_here", "_law_sizes", "_law_found", "_law_k", "_law_letters", "_law_at", "_law_one"] ["_law_bag_here", "_law_sizes"] (defScope s__law_my_colours) := ⟨rfl, rfl, rfl, by decide +kernel, rfl, by decide +kernel, by decide +kernel⟩
abbrev s__law_alike : Stmt := topS 17
theorem sc__law_alike : FnScope ["_law_found", "_law_due"] ["_law_found", "_law_due"] (defScope s__law_alike) := ⟨rfl, rfl, rfl, by decide +kernel, rfl, by decide +kernel, by decide +kernel⟩
abbrev s__law_my_colour : Stmt := topS 20
theorem sc__law_my_colour : FnScope ["_law_colours", "_law_side", "_law_k", "_law_text"] ["_law_colours", "_law_side", "_law_k"] (defScope s__law_my_colour) := ⟨rfl, rfl, rfl, by decide +kernel, rfl, by decide +kernel, by decide +kernel⟩
abbrev s__law_same : Stmt := topS 24
theorem sc__law_same : FnScope ["_law_one", "_law_other", "_law_size", "_law_side", "_law_mine", "_law_k"] ["_law_one", "_law_other"] (defScope s__law_same) := ⟨rfl, rfl, rfl, by decide +kernel, rfl, by decide +kernel, by decide +kernel⟩
abbrev s__law_refused : Stmt := topS 21
theorem sc__law_refused : FnScope ["_law_act", "e"] ["_law_act"] (defScope s__law_refused) := ⟨rfl, rfl, rfl, by decide +kernel, rfl, by decide +kernel, by decide +kernel⟩
abbrev s__law_right : Stmt := topS 25
theorem sc__law_right : FnScope ["_law_bag_here", "_law_told", "_law_colours", "_law_k", "_law_ribbon", "_law_odd", "_law_wide", "_law_other", "_law_its", "_law_same_here"] ["_law_bag_here", "_law_told"] (defScope s__law_right) := ⟨rfl, rfl, rfl, by decide +kernel, rfl, by decide +kernel, by decide +kernel⟩
abbrev s__law_is_colours : Stmt := topS 22
theorem sc__law_is_colours : FnScope ["_law_thing", "_law_letter"] ["_law_thing"] (defScope s__law_is_colours) := ⟨rfl, rfl, rfl, by decide +kernel, rfl, by decide +kernel, by decide +kernel⟩
abbrev s__law_wrong_right : Stmt := topS 23
theorem sc__law_wrong_right : FnScope ["_law_bag_here", "_law_told", "_law_odd", "_law_some", "_law_good", "_law_due", "_law_k", "_law_thing"] ["_law_bag_here", "_law_told"] (defScope s__law_wrong_right) := ⟨rfl, rfl, rfl, by decide +kernel, rfl, by decide +kernel, by decide +kernel⟩
abbrev s_law : Stmt := topS 26
theorem sc_law : FnScope ["_law_script", "_law_bag_here", "_law_turn", "_law_told"] ["_law_script"] (defScope s_law) := ⟨rfl, rfl, rfl, by decide +kernel, rfl, by decide +kernel, by decide +kernel⟩
def c_SIDES : D := cTup [Str.ofString "moon", Str.ofString "sun"]
def x_LETTERS : Str := Str.ofString "abcdefghijklmnopqrstuvwxyz"
/-- what the top has left -/
structure Top (K : PySem.W.Frag) (mg : Str → Option Value) (ct : Nat → Addr) where
  i_Colours_moons : InAt K "moons" "Colours.moons" s_Colours_moons ["self"]
  i_Colours_suns : InAt K "suns" "Colours.suns" s_Colours_suns ["self"]
  f_shortest_round : DefAt K mg "shortest_round" s_shortest_round ["text"]
  i_Colours___eq__ : InAt K "__eq__" "Colours.__eq__" s_Colours___eq__ ["self", "other"]
  f_are_colours : DefAt K mg "are_colours" s_are_colours ["thing"]
  i_Colours___init__ : InAt K "__init__" "Colours.__init__" s_Colours___init__ ["self", "suns", "moons"]
  f_is_integer : DefAt K mg "is_integer" s_is_integer ["thing"]
  f_is_count : DefAt K mg "is_count" s_is_count ["thing"]
  f_is_side : DefAt K mg "is_side" s_is_side ["thing"]
  i_Colours_shown : InAt K "shown" "Colours.shown" s_Colours_shown ["self", "ribbon"]
  f__law_bag : DefAt K mg "_law_bag" s__law_bag ["_law_script"]
  f__law_take : DefAt K mg "_law_take" s__law_take ["_law_bag_here", "_law_many"]
  f__law_pick : DefAt K mg "_law_pick" s__law_pick ["_law_bag_here", "_law_things"]
  f__law_my_colours : DefAt K mg "_law_my_colours" s__law_my_colours ["_law_bag_here", "_law_sizes"]
  f__law_alike : DefAt K mg "_law_alike" s__law_alike ["_law_found", "_law_due"]
  f__law_my_colour : DefAt K mg "_law_my_colour" s__law_my_colour ["_law_colours", "_law_side", "_law_k"]
  f__law_same : DefAt K mg "_law_same" s__law_same ["_law_one", "_law_other"]
  f__law_refused : DefAt K mg "_law_refused" s__law_refused ["_law_act"]
  f__law_right : DefAt K mg "_law_right" s__law_right ["_law_bag_here", "_law_told"]
  f__law_is_colours : DefAt K mg "_law_is_colours" s__law_is_colours ["_law_thing"]
  f__law_wrong_right : DefAt K mg "_law_wrong_right" s__law_wrong_right ["_law_bag_here", "_law_told"]
  f_law : DefAt K mg "law" s_law ["_law_script"]
  c_Colours : SlX.SCls K (ct 4)
  g_Colours : mg "Colours" = some (.ref (ct 4))
  s_Colours_its_moons : SlotAt K (ct 4) "its_moons" 0
  s_Colours_its_suns : SlotAt K (ct 4) "its_suns" 1
  si_Colours : SlX.SIsi K (ct 4)
  out_Colours : OutC K (ct 4)
  oth_Colours : ∀ c1 ∈ ([] : List Nat), OthC K (ct c1) (ct 4)
  mk_Colours : Mk K (ct 4) i_Colours___init__.f
  nf_Colours : PySem.W.notFirst K (ct 4) (.ref (ct 4)) = true
  ne_Colours : PySem.W.findIn K (.ref (ct 4)) "__ne__" = some (some (.builtin "object.__ne__"))
  mo_Colours : PySem.W.mroIn K (ct 4) (.type "object") = some true
  p_Colours_moons : PrpAt K (ct 4) "moons" i_Colours_moons.f
  p_Colours_suns : PrpAt K (ct 4) "suns" i_Colours_suns.f
  m_Colours___eq__ : Meth K (ct 4) "__eq__" i_Colours___eq__.f
  m_Colours_shown : Meth K (ct 4) "shown" i_Colours_shown.f
  n_abs : mg "abs" = none
  n_all : mg "all" = none
  n_bool : mg "bool" = none
  n_enumerate : mg "enumerate" = none
  n_int : mg "int" = none
  n_isinstance : mg "isinstance" = none
  n_len : mg "len" = none
  n_range : mg "range" = none
  n_repr : mg "repr" = none
  n_str : mg "str" = none
  n_tuple : mg "tuple" = none
  a_SIDES : Addr
  g_SIDES : mg "SIDES" = some (.ref a_SIDES)
  d_SIDES : ∀ B G, Dat K B G (.ref a_SIDES) c_SIDES
  g_LETTERS : ∃ t, mg "LETTERS" = some (.str x_LETTERS t)
structure TopX (P : Program) (w : World) (K : PySem.W.Frag) (mg : Str → Option Value) (base : Heap) (ct : Nat → Addr) (T : Top K mg ct) where
  g_RibbonError : mg "RibbonError" = some (.ref (ct 20))
  e_Wrong : ExcF P w K mg base (ct 21) "Wrong" "place" "place"
  ec_Wrong : ExcC K (ct 21)
  xf_Wrong : XfC K (ct 21)
  exm_Wrong : PySem.W.exmOne K (.ref (ct 21)) (.ref (ct 20)) = some true
  nf_Wrong_place : PySem.W.findIn K (.ref (ct 21)) "place" = some none
  nf_Wrong_ribbon : PySem.W.findIn K (.ref (ct 21)) "ribbon" = some none
  ki_Wrong_Wrong : PySem.W.kitOne K (.ref (ct 21)) (.ref (ct 21)) = some true
  ki_Wrong_NoRibbon : PySem.W.kitOne K (.ref (ct 21)) (.ref (ct 24)) = some false
  e_NoRibbon : ExcF P w K mg base (ct 24) "NoRibbon" "ribbon" "ribbon"
  ec_NoRibbon : ExcC K (ct 24)
  xf_NoRibbon : XfC K (ct 24)
  exm_NoRibbon : PySem.W.exmOne K (.ref (ct 24)) (.ref (ct 20)) = some true
  nf_NoRibbon_place : PySem.W.findIn K (.ref (ct 24)) "place" = some none
  nf_NoRibbon_ribbon : PySem.W.findIn K (.ref (ct 24)) "ribbon" = some none
  ki_NoRibbon_Wrong : PySem.W.kitOne K (.ref (ct 24)) (.ref (ct 21)) = some false
  ki_NoRibbon_NoRibbon : PySem.W.kitOne K (.ref (ct 24)) (.ref (ct 24)) = some true
  cd__law_right : Addr
  tp__law_right : Addr
  cc__law_right : T.f__law_right.fd.code = .ref cd__law_right
  tb__law_right : LamX.TabB base mg cd__law_right tp__law_right
  cd__law_wrong_right : Addr
  tp__law_wrong_right : Addr
  cc__law_wrong_right : T.f__law_wrong_right.fd.code = .ref cd__law_wrong_right
  tb__law_wrong_right : LamX.TabB base mg cd__law_wrong_right tp__law_wrong_right
  tn__law_wrong_right__law_right : tp__law_wrong_right ≠ tp__law_right
def tbs {P : Program} {w : World} {K : PySem.W.Frag} {mg : Str → Option Value} {base : Heap} {ct : Nat → Addr} {T : Top K mg ct} (TX : TopX P w K mg base ct T) : List (Addr × Str) := [(TX.tp__law_right, ("_law_right" ++ ".<locals>." : Str) ++ "<lambda>"), (TX.tp__law_wrong_right, ("_law_wrong_right" ++ ".<locals>." : Str) ++ "<lambda>")]
theorem tbm__law_right {P : Program} {w : World} {K : PySem.W.Frag} {mg : Str → Option Value} {base : Heap} {ct : Nat → Addr} {T : Top K mg ct} (TX : TopX P w K mg base ct T) : (TX.tp__law_right, ("_law_right" ++ ".<locals>." : Str) ++ "<lambda>") ∈ tbs TX := List.mem_cons_self
theorem tbu__law_right {P : Program} {w : World} {K : PySem.W.Frag} {mg : Str → Option Value} {base : Heap} {ct : Nat → Addr} {T : Top K mg ct} (TX : TopX P w K mg base ct T) : ∀ t ∈ tbs TX, t.1 = TX.tp__law_right → t.2 = ("_law_right" ++ ".<locals>." : Str) ++ "<lambda>" := fun t h e => by
  simp only [tbs, List.mem_cons, List.not_mem_nil, or_false] at h
  rcases h with rfl | rfl
  · rfl
  · exact absurd e TX.tn__law_wrong_right__law_right
theorem tbm__law_wrong_right {P : Program} {w : World} {K : PySem.W.Frag} {mg : Str → Option Value} {base : Heap} {ct : Nat → Addr} {T : Top K mg ct} (TX : TopX P w K mg base ct T) : (TX.tp__law_wrong_right, ("_law_wrong_right" ++ ".<locals>." : Str) ++ "<lambda>") ∈ tbs TX := (List.mem_cons_of_mem _ List.mem_cons_self)
theorem tbu__law_wrong_right {P : Program} {w : World} {K : PySem.W.Frag} {mg : Str → Option Value} {base : Heap} {ct : Nat → Addr} {T : Top K mg ct} (TX : TopX P w K mg base ct T) : ∀ t ∈ tbs TX, t.1 = TX.tp__law_wrong_right → t.2 = ("_law_wrong_right" ++ ".<locals>." : Str) ++ "<lambda>" := fun t h e => by
  simp only [tbs, List.mem_cons, List.not_mem_nil, or_false] at h
  rcases h with rfl | rfl
  · exact absurd e.symm TX.tn__law_wrong_right__law_right
  · rfl
/-- a is a power of its first part of length s -/
def Pow (a : List Nat) (s : Nat) : Prop := ∀ i, i < a.length → a.getD i 0 = a.getD (i % s) 0
theorem sz_w {n : Nat} (h : n ≤ 1000) : n ≤ sizeLine := Nat.le_trans h (by decide)
def t_Colours_moons : DTS := (dRet (dFld 4 0 (dVar 0)))
def S_Colours_moons : FD := fun ds Q => ds.length = 1 ∧ t_Colours_moons { nx := fun _ => Q .non, rt := Q } (startD 1 ds)
theorem len_Colours_moons : ∀ ds Q, S_Colours_moons ds Q → ds.length = 1 := fun _ _ h => h.1
theorem vc_Colours_moons : ∀ ds Q, S_Colours_moons ds Q → t_Colours_moons { nx := fun _ => Q .non, rt := Q } (startD 1 ds) := fun _ _ h => h.2
theorem ok_Colours_moons {P : Program} {w : World} {K : PySem.W.Frag} {mg : Str → Option Value} {base : Heap} {B : Bx} (T : Top K mg B.ct) : FnOk P w K mg base CX0 1 T.i_Colours_moons.f T.i_Colours_moons.fd ["self"] (spD K B S_Colours_moons) := by
  refine fn_d (k := 0) (t := t_Colours_moons) T.i_Colours_moons.fn sc_Colours_moons len_Colours_moons (fun cdv A outer s H E hr => ?_) vc_Colours_moons
  refine psd_one ?_
  refine (psd_ret (pd_fldD T.c_Colours T.s_Colours_its_moons (pd_var 0)))
theorem r_Colours_moons {P : Program} {w : World} {K : PySem.W.Frag} {mg : Str → Option Value} {base : Heap} {B : Bx} (T : Top K mg B.ct) : FnR P w K mg base CX0 1 T.i_Colours_moons.f (spD K B S_Colours_moons) := fn_r (ok_Colours_moons T) T.i_Colours_moons.bd
def t_Colours_suns : DTS := (dRet (dFld 4 1 (dVar 0)))
def S_Colours_suns : FD := fun ds Q => ds.length = 1 ∧ t_Colours_suns { nx := fun _ => Q .non, rt := Q } (startD 1 ds)
theorem len_Colours_suns : ∀ ds Q, S_Colours_suns ds Q → ds.length = 1 := fun _ _ h => h.1
theorem vc_Colours_suns : ∀ ds Q, S_Colours_suns ds Q → t_Colours_suns { nx := fun _ => Q .non, rt := Q } (startD 1 ds) := fun _ _ h => h.2
theorem ok_Colours_suns {P : Program} {w : World} {K : PySem.W.Frag} {mg : Str → Option Value} {base : Heap} {B : Bx} (T : Top K mg B.ct) : FnOk P w K mg base CX0 1 T.i_Colours_suns.f T.i_Colours_suns.fd ["self"] (spD K B S_Colours_suns) := by
  refine fn_d (k := 0) (t := t_Colours_suns) T.i_Colours_suns.fn sc_Colours_suns len_Colours_suns (fun cdv A outer s H E hr => ?_) vc_Colours_suns
  refine psd_one ?_
  refine (psd_ret (pd_fldD T.c_Colours T.s_Colours_its_suns (pd_var 0)))
theorem r_Colours_suns {P : Program} {w : World} {K : PySem.W.Frag} {mg : Str → Option Value} {base : Heap} {B : Bx} (T : Top K mg B.ct) : FnR P w K mg base CX0 1 T.i_Colours_suns.f (spD K B S_Colours_suns) := fn_r (ok_Colours_suns T) T.i_Colours_suns.bd
def b_shortest_round_1 : DTS := (dIfS (tAn (tBl (dOp oEq (dOp oMod (dCall cLen (dCons (dVar 0) dNil)) (dVar 1)) (dC (.int 0)))) (tBl (dOp oEq (dVar 0) (dOp oMul (dSl (dVar 0) noP (aP (dVar 1))) (dOp oDiv (dCall cLen (dCons (dVar 0) dNil)) (dVar 1)))))) (dRet (dSl (dVar 0) noP (aP (dVar 1)))) dNext)
def shortest_round_at_4 : DTS := (dRet (dVar 0))
def t_shortest_round : DTS := (dSeq (dFor (iR2 (dCons (dC (.int 1)) (dCons (dCall cLen (dCons (dVar 0) dNil)) dNil))) (gN 1) b_shortest_round_1)
  shortest_round_at_4)
def S_shortest_round : FD := fun ds Q => ds.length = 1 ∧ t_shortest_round { nx := fun _ => Q .non, rt := Q } (startD 2 ds)
theorem len_shortest_round : ∀ ds Q, S_shortest_round ds Q → ds.length = 1 := fun _ _ h => h.1
theorem vc_shortest_round : ∀ ds Q, S_shortest_round ds Q → t_shortest_round { nx := fun _ => Q .non, rt := Q } (startD 2 ds) := fun _ _ h => h.2
theorem ok_shortest_round {P : Program} {w : World} {K : PySem.W.Frag} {mg : Str → Option Value} {base : Heap} {B : Bx} (T : Top K mg B.ct) : FnOk P w K mg base CX0 1 T.f_shortest_round.f T.f_shortest_round.fd ["text"] (spD K B S_shortest_round) := by
  refine fn_d (k := 0) (t := t_shortest_round) T.f_shortest_round.fn sc_shortest_round len_shortest_round (fun cdv A outer s H E hr => ?_) vc_shortest_round
  refine psd_cons ?_ ?_
  · refine psd_for PassesOwn.never rfl (pid_r2 (by rfl) T.n_range ?h2) (pgd_name (i := 1) sc_shortest_round.nd rfl (by first | exact .inl rfl | exact .inr rfl)) ?_
    case h2 => exact (pad_cons pd_int (pad_cons (pd_callB call_len_d (by rfl) T.n_len (by decide +kernel) (pad_cons (pd_var 0) pad_nil)) pad_nil))
    refine psd_one ?_
    refine psd_if (pwd_and (ptd_cmp (op_eq_d hr.units) (pd_bin op_mod_d (pd_callB call_len_d (by rfl) T.n_len (by decide +kernel) (pad_cons (pd_var 0) pad_nil)) (pd_var 1)) pd_int (by rfl)) (pwd_and1 (ptd_cmp (op_eq_d hr.units) (pd_var 0) (pd_bin op_mul_d (pd_slice (pd_var 0) pod_none (pod_some (pd_var 1))) (pd_bin op_div_d (pd_callB call_len_d (by rfl) T.n_len (by decide +kernel) (pad_cons (pd_var 0) pad_nil)) (pd_var 1))) (by rfl)))).pt ?_ ?_
    · refine psd_one ?_
      refine (psd_ret (pd_slice (pd_var 0) pod_none (pod_some (pd_var 1))))
    · exact psd_nil
  refine psd_one ?_
  refine (psd_ret (pd_var 0))
def Colours___eq___at_4 : DTS := (dRet (dOp oEq (dF (fLc (iSeq (dVar 2)) (gN 4) dYes (dCall S_shortest_round (dCons (dVar 4) dNil)) [4])) (dF (fLc (iSeq (dVar 3)) (gN 4) dYes (dCall S_shortest_round (dCons (dVar 4) dNil)) [4]))))
def Colours___eq___at_3 : DTS := (dSeq (dPar 2 3 (dCons (dTup (dCons (dFld 4 1 (dVar 0)) (dCons (dFld 4 0 (dVar 0)) dNil))) (dCons (dTup (dCons (dProp 4 S_Colours_suns (dVar 1)) (dCons (dProp 4 S_Colours_moons (dVar 1)) dNil))) dNil)))
  Colours___eq___at_4)
def t_Colours___eq__ : DTS := (dSeq (dIfS (tNt (tBl (dIsCA 4 [] (dVar 1)))) (dRet (dC (.bl false))) dNext)
  Colours___eq___at_3)
def S_Colours___eq__ : FD := fun ds Q => ds.length = 2 ∧ t_Colours___eq__ { nx := fun _ => Q .non, rt := Q } (startD 5 ds)
theorem len_Colours___eq__ : ∀ ds Q, S_Colours___eq__ ds Q → ds.length = 2 := fun _ _ h => h.1
theorem vc_Colours___eq__ : ∀ ds Q, S_Colours___eq__ ds Q → t_Colours___eq__ { nx := fun _ => Q .non, rt := Q } (startD 5 ds) := fun _ _ h => h.2
theorem ok_Colours___eq__ {P : Program} {w : World} {K : PySem.W.Frag} {mg : Str → Option Value} {base : Heap} {B : Bx} (T : Top K mg B.ct) : FnOk P w K mg base CX0 3 T.i_Colours___eq__.f T.i_Colours___eq__.fd ["self", "other"] (spD K B S_Colours___eq__) := by
  refine fn_d (k := 2) (t := t_Colours___eq__) T.i_Colours___eq__.fn sc_Colours___eq__ len_Colours___eq__ (fun cdv A outer s H E hr => ?_) vc_Colours___eq__
  refine psd_cons ?_ ?_
  · refine psd_if (ptd_not (ptd_val (pd_isCA T.c_Colours T.si_Colours T.out_Colours T.oth_Colours (by rfl) T.n_isinstance (by rfl) T.g_Colours (pd_var 1)))) ?_ ?_
    · refine psd_one ?_
      refine (psd_ret pd_bl)
    · exact psd_nil
  refine psd_cons ?_ ?_
  · refine (psd_par (i := 2) (j := 3) rfl sc_Colours___eq__.nd rfl rfl (by decide) rfl rfl (pad_cons (pd_tup (pad_cons (pd_fldD T.c_Colours T.s_Colours_its_suns (pd_var 0)) (pad_cons (pd_fldD T.c_Colours T.s_Colours_its_moons (pd_var 0)) pad_nil))) (pad_cons (pd_tup (pad_cons (pd_propD T.c_Colours T.p_Colours_suns (r_Colours_suns T) hr (by decide) (pd_var 1)) (pad_cons (pd_propD T.c_Colours T.p_Colours_moons (r_Colours_moons T) hr (by decide) (pd_var 1)) pad_nil))) pad_nil)) (by rfl))
  refine psd_one ?_
  refine (psd_ret (pd_cmp (op_eq_d hr.units) (pd_f (pf_lc rfl sc_Colours___eq__.nd (pid_seq (pd_var 2)) (blkOk_by (own := [("text", 4)]) (by rfl)) (by decide) (fun _ _ _ _ _ => (pgd_name (i := 4) sc_Colours___eq__.nd rfl (by first | exact .inl rfl | exact .inr rfl))) (fun _ _ _ _ _ => ptsd_nil) (fun _ _ _ _ _ => ?h3))) (pd_f (pf_lc rfl sc_Colours___eq__.nd (pid_seq (pd_var 3)) (blkOk_by (own := [("text", 4)]) (by rfl)) (by decide) (fun _ _ _ _ _ => (pgd_name (i := 4) sc_Colours___eq__.nd rfl (by first | exact .inl rfl | exact .inr rfl))) (fun _ _ _ _ _ => ptsd_nil) (fun _ _ _ _ _ => ?h4))) (by rfl)))
  case h3 => exact (pd_callD T.f_shortest_round (ok_shortest_round T) hr (by decide) (by rfl) (pad_cons (pd_var 4) pad_nil))
  case h4 => exact (pd_callD T.f_shortest_round (ok_shortest_round T) hr (by decide) (by rfl) (pad_cons (pd_var 4) pad_nil))
theorem r_Colours___eq__ {P : Program} {w : World} {K : PySem.W.Frag} {mg : Str → Option Value} {base : Heap} {B : Bx} (T : Top K mg B.ct) : FnR P w K mg base CX0 3 T.i_Colours___eq__.f (spD K B S_Colours___eq__) := fn_r (ok_Colours___eq__ T) T.i_Colours___eq__.bd
def t_are_colours : DTS := (dRet (dAn (dIsi "str" (dVar 0)) (dAn (dOp oNe (dVar 0) (dC (.str (Str.ofString "")))) (dCall cAll (dCons (dF (fLc (iSeq (dVar 0)) (gN 1) dYes (dOp (oIn false) (dVar 1) (dC (.str x_LETTERS))) [1])) dNil)))))
def S_are_colours : FD := fun ds Q => ds.length = 1 ∧ t_are_colours { nx := fun _ => Q .non, rt := Q } (startD 2 ds)
theorem len_are_colours : ∀ ds Q, S_are_colours ds Q → ds.length = 1 := fun _ _ h => h.1
theorem vc_are_colours : ∀ ds Q, S_are_colours ds Q → t_are_colours { nx := fun _ => Q .non, rt := Q } (startD 2 ds) := fun _ _ h => h.2
theorem ok_are_colours {P : Program} {w : World} {K : PySem.W.Frag} {mg : Str → Option Value} {base : Heap} {B : Bx} (T : Top K mg B.ct) : FnOk P w K mg base CX0 1 T.f_are_colours.f T.f_are_colours.fd ["thing"] (spD K B S_are_colours) := by
  refine fn_d (k := 0) (t := t_are_colours) T.f_are_colours.fn sc_are_colours len_are_colours (fun cdv A outer s H E hr => ?_) vc_are_colours
  refine psd_one ?_
  refine (psd_ret (pd_and (pd_isi known_str (by rfl) T.n_isinstance (by rfl) T.n_str (by decide +kernel) (pd_var 0)) (pd_and (pd_cmp (op_ne_d hr.units) (pd_var 0) pd_str (by rfl)) (pd_1 (pd_callB (call_all_d rfl) (by rfl) T.n_all (by decide +kernel) (pad_cons (pd_f (pf_lc rfl sc_are_colours.nd (pid_seq (pd_var 0)) (blkOk_by (own := [("sign", 1)]) (by rfl)) (by decide) (fun _ _ _ _ _ => (pgd_name (i := 1) sc_are_colours.nd rfl (by first | exact .inl rfl | exact .inr rfl))) (fun _ _ _ _ _ => ptsd_nil) (fun _ _ _ _ _ => ?h2))) pad_nil))))))
  case h2 => exact (pd_cmp op_in_d (pd_var 1) (pd_glob (v := .str x_LETTERS) (by rfl) T.g_LETTERS.choose_spec ⟨_, rfl⟩ (fun _ => .str _)) (by rfl))
def b_Colours___init___1 : DTS := (dIfS (tNt (tBl (dCall S_are_colours (dCons (dVar 4) dNil)))) dNever dNext)
def t_Colours___init__ : DTS := (dSeq (dFor (iEn (dCons (dF (fLst (dCons (dVar 1) (dCons (dVar 2) dNil)))) dNil)) (gT 2 (gsCons (gN 3) (gsCons (gN 4) gsNil))) b_Colours___init___1)
  (dSelf2 0 1 0 4 (dTup (dCons (dVar 1) (dCons (dVar 2) dNil)))))
def S_Colours___init__ : FI := fun ds Q => ds.length + 1 = 3 ∧ ∀ x, t_Colours___init__ (endI x 4 Q) (startI 5 x 4 ds)
theorem len_Colours___init__ : ∀ ds Q, S_Colours___init__ ds Q → ds.length + 1 = 3 := fun _ _ h => h.1
theorem vc_Colours___init__ : ∀ x ds Q, S_Colours___init__ ds Q → t_Colours___init__ (endI x 4 Q) (startI 5 x 4 ds) := fun x _ _ h => h.2 x
theorem ok_Colours___init__ {P : Program} {w : World} {K : PySem.W.Frag} {mg : Str → Option Value} {base : Heap} {B : Bx} (T : Top K mg B.ct) : FnOk P w K mg base CX0 2 T.i_Colours___init__.f T.i_Colours___init__.fd ["self", "suns", "moons"] (spI K B 4 S_Colours___init__) := by
  refine fn_init (k := 1) (t := t_Colours___init__) T.i_Colours___init__.fn sc_Colours___init__ len_Colours___init__ (by decide) (fun cdv A outer s H E hr => ?_) vc_Colours___init__
  refine psd_cons ?_ ?_
  · refine psd_for PassesOwn.never rfl (pid_enum (by rfl) T.n_enumerate ?h2) (pgd_tup rfl (pgsd_cons (pgd_name (i := 3) sc_Colours___init__.nd rfl (by first | exact .inl rfl | exact .inr rfl)) (pgsd_cons (pgd_name (i := 4) sc_Colours___init__.nd rfl (by first | exact .inl rfl | exact .inr rfl)) pgsd_nil))) ?_
    case h2 => exact (pad_cons (pd_f (pf_lst (pad_cons (pd_var 1) (pad_cons (pd_var 2) pad_nil)))) pad_nil)
    refine psd_one ?_
    refine psd_if (ptd_not (ptd_val (pd_callD T.f_are_colours (ok_are_colours T) hr (by decide) (by rfl) (pad_cons (pd_var 4) pad_nil)))) ?_ ?_
    · refine psd_one ?_
      refine psd_never
    · exact psd_nil
  refine psd_one ?_
  refine (psd_self2D rfl T.c_Colours T.s_Colours_its_suns T.s_Colours_its_moons (pv 0) (pv 0) (pd_tup (pad_cons (pd_var 1) (pad_cons (pd_var 2) pad_nil))))
theorem r_Colours___init__ {P : Program} {w : World} {K : PySem.W.Frag} {mg : Str → Option Value} {base : Heap} {B : Bx} (T : Top K mg B.ct) : FnR P w K mg base CX0 2 T.i_Colours___init__.f (spI K B 4 S_Colours___init__) := fn_r (ok_Colours___init__ T) T.i_Colours___init__.bd
def t_is_integer : DTS := (dRet (dAn (dIsi "int" (dVar 0)) (dNt (dIsi "bool" (dVar 0)))))
def S_is_integer : FD := fun ds Q => ds.length = 1 ∧ t_is_integer { nx := fun _ => Q .non, rt := Q } (startD 1 ds)
theorem len_is_integer : ∀ ds Q, S_is_integer ds Q → ds.length = 1 := fun _ _ h => h.1
theorem vc_is_integer : ∀ ds Q, S_is_integer ds Q → t_is_integer { nx := fun _ => Q .non, rt := Q } (startD 1 ds) := fun _ _ h => h.2
theorem ok_is_integer {P : Program} {w : World} {K : PySem.W.Frag} {mg : Str → Option Value} {base : Heap} {B : Bx} (T : Top K mg B.ct) : FnOk P w K mg base CX0 1 T.f_is_integer.f T.f_is_integer.fd ["thing"] (spD K B S_is_integer) := by
  refine fn_d (k := 0) (t := t_is_integer) T.f_is_integer.fn sc_is_integer len_is_integer (fun cdv A outer s H E hr => ?_) vc_is_integer
  refine psd_one ?_
  refine (psd_ret (pd_and (pd_isi known_int (by rfl) T.n_isinstance (by rfl) T.n_int (by decide +kernel) (pd_var 0)) (pd_1 (pd_not (pd_isi known_bool (by rfl) T.n_isinstance (by rfl) T.n_bool (by decide +kernel) (pd_var 0))))))
def t_is_count : DTS := (dRet (dAn (dCall S_is_integer (dCons (dVar 0) dNil)) (dOp oGe (dVar 0) (dC (.int 0)))))
def S_is_count : FD := fun ds Q => ds.length = 1 ∧ t_is_count { nx := fun _ => Q .non, rt := Q } (startD 1 ds)
theorem len_is_count : ∀ ds Q, S_is_count ds Q → ds.length = 1 := fun _ _ h => h.1
theorem vc_is_count : ∀ ds Q, S_is_count ds Q → t_is_count { nx := fun _ => Q .non, rt := Q } (startD 1 ds) := fun _ _ h => h.2
theorem ok_is_count {P : Program} {w : World} {K : PySem.W.Frag} {mg : Str → Option Value} {base : Heap} {B : Bx} (T : Top K mg B.ct) : FnOk P w K mg base CX0 2 T.f_is_count.f T.f_is_count.fd ["thing"] (spD K B S_is_count) := by
  refine fn_d (k := 1) (t := t_is_count) T.f_is_count.fn sc_is_count len_is_count (fun cdv A outer s H E hr => ?_) vc_is_count
  refine psd_one ?_
  refine (psd_ret (pd_and (pd_callD T.f_is_integer (ok_is_integer T) hr (by decide) (by rfl) (pad_cons (pd_var 0) pad_nil)) (pd_1 (pd_cmp op_ge_d (pd_var 0) pd_int (by rfl)))))
def t_is_side : DTS := (dRet (dAn (dIsi "str" (dVar 0)) (dOp (oIn false) (dVar 0) (dC c_SIDES))))
def S_is_side : FD := fun ds Q => ds.length = 1 ∧ t_is_side { nx := fun _ => Q .non, rt := Q } (startD 1 ds)
theorem len_is_side : ∀ ds Q, S_is_side ds Q → ds.length = 1 := fun _ _ h => h.1
theorem vc_is_side : ∀ ds Q, S_is_side ds Q → t_is_side { nx := fun _ => Q .non, rt := Q } (startD 1 ds) := fun _ _ h => h.2
theorem ok_is_side {P : Program} {w : World} {K : PySem.W.Frag} {mg : Str → Option Value} {base : Heap} {B : Bx} (T : Top K mg B.ct) : FnOk P w K mg base CX0 1 T.f_is_side.f T.f_is_side.fd ["thing"] (spD K B S_is_side) := by
  refine fn_d (k := 0) (t := t_is_side) T.f_is_side.fn sc_is_side len_is_side (fun cdv A outer s H E hr => ?_) vc_is_side
  refine psd_one ?_
  refine (psd_ret (pd_and (pd_isi known_str (by rfl) T.n_isinstance (by rfl) T.n_str (by decide +kernel) (pd_var 0)) (pd_1 (pd_cmp op_in_d (pd_var 0) (pd_glob (v := .ref T.a_SIDES) (by rfl) T.g_SIDES rfl (T.d_SIDES B)) (by rfl)))))
def Colours_shown_at_4 : DTS := (dRet (dOp oIx (dVar 2) (dOp oMod (dOp oIx (dVar 1) (dC (.int 1))) (dCall cLen (dCons (dVar 2) dNil)))))
def Colours_shown_at_3 : DTS := (dSeq (dSet 2 (dIfE (tBl (dOp oEq (dOp oIx (dVar 1) (dC (.int 0))) (dC (.str (Str.ofString "sun"))))) (dFld 4 1 (dVar 0)) (dFld 4 0 (dVar 0))))
  Colours_shown_at_4)
def t_Colours_shown : DTS := (dSeq (dIfS (tOrr (tNt (tBl (dIsi "tuple" (dVar 1)))) (tOrr (tBl (dOp oNe (dCall cLen (dCons (dVar 1) dNil)) (dC (.int 2)))) (tOrr (tNt (tBl (dCall S_is_side (dCons (dOp oIx (dVar 1) (dC (.int 0))) dNil)))) (tNt (tBl (dCall S_is_count (dCons (dOp oIx (dVar 1) (dC (.int 1))) dNil))))))) dNever dNext)
  Colours_shown_at_3)
def S_Colours_shown : FD := fun ds Q => ds.length = 2 ∧ t_Colours_shown { nx := fun _ => Q .non, rt := Q } (startD 3 ds)
theorem len_Colours_shown : ∀ ds Q, S_Colours_shown ds Q → ds.length = 2 := fun _ _ h => h.1
theorem vc_Colours_shown : ∀ ds Q, S_Colours_shown ds Q → t_Colours_shown { nx := fun _ => Q .non, rt := Q } (startD 3 ds) := fun _ _ h => h.2
theorem ok_Colours_shown {P : Program} {w : World} {K : PySem.W.Frag} {mg : Str → Option Value} {base : Heap} {B : Bx} (T : Top K mg B.ct) : FnOk P w K mg base CX0 3 T.i_Colours_shown.f T.i_Colours_shown.fd ["self", "ribbon"] (spD K B S_Colours_shown) := by
  refine fn_d (k := 2) (t := t_Colours_shown) T.i_Colours_shown.fn sc_Colours_shown len_Colours_shown (fun cdv A outer s H E hr => ?_) vc_Colours_shown
  refine psd_cons ?_ ?_
  · refine psd_if (pwd_or (ptd_not (ptd_val (pd_isi known_tuple (by rfl) T.n_isinstance (by rfl) T.n_tuple (by decide +kernel) (pd_var 1)))) (pwd_or (ptd_cmp (op_ne_d hr.units) (pd_callB call_len_d (by rfl) T.n_len (by decide +kernel) (pad_cons (pd_var 1) pad_nil)) pd_int (by rfl)) (pwd_or (ptd_not (ptd_val (pd_callD T.f_is_side (ok_is_side T) hr (by decide) (by rfl) (pad_cons (pd_ix ix_d (pd_var 1) pd_int) pad_nil)))) (pwd_or1 (ptd_not (ptd_val (pd_callD T.f_is_count (ok_is_count T) hr (by decide) (by rfl) (pad_cons (pd_ix ix_d (pd_var 1) pd_int) pad_nil)))))))).pt ?_ ?_
    · refine psd_one ?_
      refine psd_never
    · exact psd_nil
  refine psd_cons ?_ ?_
  · refine (psd_set (i := 2) sc_Colours_shown.nd rfl (by first | exact .inl rfl | exact .inr rfl) (pd_ifE (ptd_cmp (op_eq_d hr.units) (pd_ix ix_d (pd_var 1) pd_int) pd_str (by rfl)) (pd_fldD T.c_Colours T.s_Colours_its_suns (pd_var 0)) (pd_fldD T.c_Colours T.s_Colours_its_moons (pd_var 0))))
  refine psd_one ?_
  refine (psd_ret (pd_ix ix_d (pd_var 2) (pd_bin op_mod_d (pd_ix ix_d (pd_var 1) pd_int) (pd_callB call_len_d (by rfl) T.n_len (by decide +kernel) (pad_cons (pd_var 2) pad_nil)))))
theorem r_Colours_shown {P : Program} {w : World} {K : PySem.W.Frag} {mg : Str → Option Value} {base : Heap} {B : Bx} (T : Top K mg B.ct) : FnR P w K mg base CX0 3 T.i_Colours_shown.f (spD K B S_Colours_shown) := fn_r (ok_Colours_shown T) T.i_Colours_shown.bd
def absI (i : Int) : Int := if i < 0 then -i else i
def spBag (K : PySem.W.Frag) : Sp := fun vs H P _ => ∃ (a : Addr) (ns : List Int), vs = [.ref a] ∧ SqL K H a (ns.map V.int) ∧ ns.length ≤ 63 ∧
  ∀ b L H2, H b = none → H L = none → L ≠ b → Ex H H2 → H2 b = some (.lst [.int 0, .int 1234567891, .int 0, .ref L]) → H2 L = some (.lst ((ns.map absI).map V.int)) → P (.ref b) H2
theorem ok__law_bag {P : Program} {w : World} {K : PySem.W.Frag} {mg : Str → Option Value} {base : Heap} {ct : Nat → Addr} (T : Top K mg ct) : FnOk P w K mg base CX0 1 T.f__law_bag.f T.f__law_bag.fd ["_law_script"] (spBag K) := by
  refine T.f__law_bag.fn.ok sc__law_bag (fun vs H Q E h => ?_) (fun cdv A outer s H vs Q E hr h => ?_)
  · obtain ⟨a, ns, rfl, _⟩ := h
    rfl
  obtain ⟨a, ns, rfl, hS, hl, q⟩ := h
  refine ⟨_, pss_one (ps_ret (pe_lst (pa_cons pe_int (pa_cons pe_int (pa_cons pe_int (pa_cons (pe_lc (own := [("_law_cell", 1)]) (g := gName 1) (tt := tYes) rfl sc__law_bag.nd (pi_list (pe_slice sl_list (pv 0) po_none (po_some pe_int)))
    (blkOk_by (by rfl)) (fun _ _ _ _ _ => pg_name (i := 1) sc__law_bag.nd rfl (.inl rfl)) (fun _ _ _ _ _ => pts_nil) (fun _ _ _ _ _ => pe_callB call_abs (by rfl) T.n_abs (by decide +kernel) (pa_cons (pv 1) pa_nil))) pa_nil)))))), ?_⟩
  have hcut : cutV (ns.map V.int) none (some 63) = ns.map V.int := by
    show DL.cut (ns.map V.int) none (some ((63 : Nat) : Int)) = _
    rw [cut_to]
    exact List.take_of_length_le (by rw [List.length_map]; exact hl)
  have ev : EvL (tSl (rSlL K) (tVar 0) tNoPart (tPart (tC (.int 63)))) [some (.ref a), none] H (ns.map V.int) := by
    have := el_sl (K := K) (ev_var (σ := [some (.ref a), none]) (H := H) (i := 0) (v := .ref a) rfl) eo_none (eo_some (ev_c (v := .int 63))) hS
    rw [hcut] at this
    exact this
  have key := el_lcNL (K := K) (j := 1) (vs := [1]) (t := tYes) (te := tCB (fun xs H Q => ∃ i, xs = [.int i] ∧ Q (.int (if i < 0 then -i else i)) H) (tCons (tVar 1) tNil)) (fun _ => true) (fun i => .int (absI (ns.getD i 0))) ev (by rw [List.length_map]; omega) (fun x => rfl)
    (fun i x H1 _ _ H2 _ R r => r H2 (Ex.refl _)) (fun i x H1 _ hx _ H2 _ R r => by
      rw [List.getElem?_map] at hx
      cases e : ns[i]? with
      | none => rw [e] at hx; cases hx
      | some m =>
        rw [e] at hx
        cases hx
        refine ⟨.int m, rfl, m, rfl, ?_⟩
        have e2 : absI (ns.getD i 0) = if m < 0 then -m else m := by
          rw [List.getD_eq_getElem?_getD, e]
          rfl
        rw [← e2]
        exact r H2 (Ex.refl _))
  have e3 : given (ns.map V.int).length (fun _ => true) (fun i => V.int (absI (ns.getD i 0))) = (ns.map absI).map V.int := by
    unfold given
    rw [List.filter_eq_self.mpr (fun _ _ => rfl), List.map_map]
    apply List.ext_getElem?
    intro i
    rw [List.getElem?_map, List.getElem?_map, List.length_map]
    by_cases hi : i < ns.length
    · rw [List.getElem?_range hi, List.getElem?_eq_getElem hi]
      show some (V.int (absI (ns.getD i 0))) = some (V.int (absI ns[i]))
      rw [List.getD_eq_getElem?_getD, List.getElem?_eq_getElem hi]
      rfl
    · rw [List.getElem?_eq_none_iff.mpr (by rw [List.length_range]; omega), List.getElem?_eq_none_iff.mpr (by omega)]
      rfl
  rw [e3] at key
  have fin := key H (Ex.refl H) (fun x H1 => [V.int 0, V.int 1234567891, V.int 0, x].length ≤ sizeLine ∧ ∀ p, H1 p = none → Q (.ref p) (upd H1 p (.lst [V.int 0, V.int 1234567891, V.int 0, x]))) (fun L H1 hL e1 h1 => ⟨by show 4 ≤ sizeLine; decide, fun b hb => q b L _ (fresh_back e1 hb) hL (ne_of_none h1 hb) (e1.trans (Ex.new hb)) upd_same (by rw [upd_ne (ne_of_none h1 hb)]; exact h1)⟩)
  exact fin
theorem bag_set {K : PySem.W.Frag} {B : Bx} {G0 H0 G H : Hp} {a b c : Int} {ns : List Int} (g : Gr K B G0 H0 G H) (hL : SqL K G B.L (ns.map V.int)) (h1 : 0 ≤ a) (h2 : 0 ≤ b) (h3 : b < 2147483647) (h4 : 0 ≤ c) (h5 : ∀ n ∈ ns, 0 ≤ n) (h6 : ns.length ≤ 63) :
    Gr K B G0 H0 G (upd H B.b (.lst [.int a, .int b, .int c, .ref B.L])) := by
  refine ⟨g.ex, fun x o n h => by rw [upd_ne n.1]; exact g.kp x o n h, ⟨fun x o h => ?_, g.j.no, ⟨a, b, c, ns, upd_same, hL, h1, h2, h3, h4, h5, h6⟩, { tb := fun t h => ?_, ex := g.j.xt.ex, keep := fun u h a o s e => by rw [upd_ne s.1]; exact g.j.xt.keep u h a o s e, old := g.j.xt.old }⟩, g.old⟩
  · have nx : x ≠ B.b := fun e => by subst e; rw [g.j.no] at h; cases h
    rw [upd_ne nx]
    exact g.j.ex x o h
  · obtain ⟨⟨ps, z1, z2⟩, z3⟩ := g.j.xt.tb t h
    have nt : t.1 ≠ B.b := fun e => by
      obtain ⟨_, _, _, _, ho, _⟩ := g.j.bag
      rw [e, ho] at z1
      cases z1
    exact ⟨⟨ps, by rw [upd_ne nt]; exact z1, z2⟩, z3⟩
set_option maxHeartbeats 16000000 in
theorem ok__law_take {P : Program} {w : World} {K : PySem.W.Frag} {mg : Str → Option Value} {base : Heap} {B : Bx} (T : Top K mg B.ct) : FnOk P w K mg base CX0 1 T.f__law_take.f T.f__law_take.fd ["_law_bag_here", "_law_many"] (spD K B S__law_take) := by
  refine T.f__law_take.fn.ok sc__law_take (fun vs H Q E h => ?_) (fun cdv A outer s H vs Q E hr h => ?_)
  · obtain ⟨G, ds, R, j, hd, hs, _⟩ := h
    rw [hd.len]
    match ds, hs with
    | [.bag, .int _], _ => rfl
  obtain ⟨G, ds, R, j, hd, hs, kk⟩ := h
  match ds, hs, hd with
  | [.bag, .int n], ⟨⟨n0, n1⟩, hR⟩, .cons .bag (.cons (.int _) .nil) =>
  have kv : ∀ (v : Int) (H2 : Hp), 0 ≤ v → v < n → Gr K B G H G H2 → Q (.int v) H2 := fun v H2 v0 v1 g => kk _ _ G H2 (hR v v0 v1) g (.int _)
  refine ⟨_, pss_cut (ps_if (pt_cmpR op_eq (pe_ix ix_list (pv 0) pe_int (fun _ _ => rfl)) pe_int (nomark _))
      (pss_cons (ps_set (i := 2) sc__law_take.nd rfl (.inl rfl) pe_int)
      (pss_cut (ps_if (pt_cmpR op_lt (pe_ix ix_list (pv 0) pe_int (fun _ _ => rfl)) (pe_callB call_len_seq (by rfl) T.n_len PySem.boot_len (pa_cons (pe_ix ix_list (pv 0) pe_int (fun _ _ => rfl)) pa_nil)) (nomark _))
          (pss_one (ps_set (i := 2) sc__law_take.nd rfl (.inl rfl) (pe_ix ix_list (pe_ix ix_list (pv 0) pe_int (fun _ _ => rfl)) (pe_ix ix_list (pv 0) pe_int (fun _ _ => rfl)) (fun _ _ => rfl)))) pss_nil)
      (pss_cons (ps_augS (pv 0) pe_int get_list pe_int ip_add set_list)
      (pss_cut (ps_if (pt_cmpR op_ge (pv 2) pe_int (nomark _)) (pss_one (ps_asg (pv 2) (pg_sub (pv 0) pe_int set_list))) pss_nil)
      (pss_cons (ps_set (i := 3) sc__law_take.nd rfl (.inl rfl) (pe_op op_add (pe_op op_add (pe_op op_mul (pe_ix ix_list (pv 0) pe_int (fun _ _ => rfl)) pe_int) (pe_op op_mod (pe_callTy call_int1 (by rfl) T.n_int (by decide +kernel) (pa_cons (pv 2) pa_nil)) pe_int)) (pe_op op_mul pe_int (pe_ix ix_list (pv 0) pe_int (fun _ _ => rfl)))))
      (pss_one (ps_asg (pe_op op_mod (pe_callTy call_int1 (by rfl) T.n_int (by decide +kernel) (pa_cons (pv 3) pa_nil)) pe_int) (pg_sub (pv 0) pe_int set_list)))))))) pss_nil)
    (pss_cons (ps_if (pt_cmpR op_gt (pe_ix ix_list (pv 0) pe_int (fun _ _ => rfl)) pe_int (nomark _))
        (pss_cons (ps_set (i := 4) sc__law_take.nd rfl (.inl rfl) (pe_op op_mod (pe_callTy call_int1 (by rfl) T.n_int (by decide +kernel) (pa_cons (pe_ix ix_list (pv 0) pe_int (fun _ _ => rfl)) pa_nil)) (pv 1)))
        (pss_cons (ps_asg (pe_op op_fdivW (pe_ix ix_list (pv 0) pe_int (fun _ _ => rfl)) (pv 1)) (pg_sub (pv 0) pe_int set_list))
        (pss_one (ps_ret (pv 4))))) pss_nil)
    (pss_cons (ps_set (i := 5) sc__law_take.nd rfl (.inl rfl) (pe_op op_mod (pe_callTy call_int1 (by rfl) T.n_int (by decide +kernel) (pa_cons (pe_op op_mul (pe_op op_add (pe_ix ix_list (pv 0) pe_int (fun _ _ => rfl)) pe_int) pe_int) pa_nil)) pe_int))
    (pss_cons (ps_set (i := 6) sc__law_take.nd rfl (.inl rfl) (pe_op op_mod (pe_callTy call_int1 (by rfl) T.n_int (by decide +kernel) (pa_cons (pe_op op_mul (pe_op op_mod (pe_callTy call_int1 (by rfl) T.n_int (by decide +kernel) (pa_cons (pe_op op_mul (pv 5) (pv 5)) pa_nil)) pe_int) pe_int) pa_nil)) pe_int))
    (pss_cons (ps_if (pt_cmpR op_gt (pv 1) pe_int (nomark _)) (pss_one (ps_ret (pe_op op_mod (pe_callTy call_int1 (by rfl) T.n_int (by decide +kernel) (pa_cons (pe_op op_add (pe_op op_mul (pv 6) pe_int) (pv 5)) pa_nil)) (pv 1)))) pss_nil)
    (pss_one (ps_ret (pe_op op_mod (pe_callTy call_int1 (by rfl) T.n_int (by decide +kernel) (pa_cons (pe_op op_fdiv (pv 6) pe_int) pa_nil)) (pv 1)))))))), ?_⟩
  refine ⟨fun σ H' => ∃ y2 y3, σ = [some (.ref B.b), some (.int n), y2, y3, none, none, none] ∧ Gr K B G H G H', ?_, fun σ H' hm => ?_⟩
  · obtain ⟨a, b, c, ns, hb, hL, p1, p2, p3, p4, p5, p6⟩ := j.bag
    have sB : SqL K H B.b [.int a, .int b, .int c, .ref B.L] := SqL.of hb
    refine ⟨.ref B.b, rfl, B.b, _, 0, .int a, rfl, rfl, sB, atI_nat (j := 0) rfl, rfl, _, rfl, ite2 (fun _ => ?_) (fun _ => ⟨none, none, rfl, Gr.refl j⟩)⟩
    have hLH : SqL K H B.L (ns.map V.int) := ex_l j.ex hL
    refine ⟨fun σ H' => ∃ cell : Int, 0 ≤ cell ∧ σ = [some (.ref B.b), some (.int n), some (.int cell), none, none, none, none] ∧ H = H', ?_, fun σ H' hm => ?_⟩
    · refine ⟨.ref B.b, rfl, B.b, _, 2, .int c, rfl, rfl, sB, atI_nat (j := 2) rfl, .ref B.b, rfl, B.b, _, 3, .ref B.L, rfl, rfl, sB, atI_nat (j := 3) rfl, B.L, _, rfl, .inl hLH, c, _, rfl, rfl, _, rfl, ite2 (fun e => ?_) (fun _ => ⟨0, Int.le_refl 0, rfl, rfl⟩)⟩
      have hc : c < (ns.length : Int) := by
        have := of_decide_eq_true e
        rw [List.length_map] at this
        exact this
      have hi : c.toNat < ns.length := by omega
      have g1 : atI (ns.map V.int) c = some (.int ns[c.toNat]) := atI_q p4 (by rw [List.getElem?_map, List.getElem?_eq_getElem hi]; rfl)
      exact ⟨.ref B.b, rfl, B.b, _, 3, .ref B.L, rfl, rfl, sB, atI_nat (j := 3) rfl, .ref B.b, rfl, B.b, _, 2, .int c, rfl, rfl, sB, atI_nat (j := 2) rfl, B.L, _, c, _, rfl, rfl, hLH, g1, _, p5 _ (List.getElem_mem hi), rfl, rfl⟩
    · obtain ⟨cell, c0, rfl, rfl⟩ := hm
      -- bag[2] += 1
      refine ⟨.ref B.b, rfl, B.b, _, 2, .int c, rfl, rfl, sB, rfl, c, 1, rfl, rfl, B.b, _, 2, 2, rfl, rfl, hb, rfl, ?_⟩
      have g1 : Gr K B G H G (upd H B.b (.lst [.int a, .int b, .int (c + 1), .ref B.L])) := bag_set (Gr.refl j) hL p1 p2 p3 (Int.add_nonneg p4 (by decide)) p5 p6
      -- if cell >= ..: bag[0] = cell
      refine ⟨fun σ H' => ∃ a' : Int, 0 ≤ a' ∧ σ = [some (.ref B.b), some (.int n), some (.int cell), none, none, none, none] ∧ H' B.b = some (.lst [.int a', .int b, .int (c + 1), .ref B.L]) ∧ Gr K B G H G H', ?_, fun σ H' hm => ?_⟩
      · refine ⟨.int cell, rfl, cell, _, rfl, rfl, _, rfl, ite2 (fun _ => ?_) (fun _ => ⟨a, p1, rfl, upd_same, g1⟩)⟩
        refine ⟨.int cell, rfl, .ref B.b, rfl, B.b, _, 0, 0, rfl, rfl, upd_same, rfl, cell, c0, rfl, ?_, ?_⟩
        · rw [upd_same]; rfl
        · exact bag_set g1 hL c0 p2 p3 (Int.add_nonneg p4 (by decide)) p5 p6
      · obtain ⟨a', a0, rfl, hb', g2⟩ := hm
        have sB' : SqL K H' B.b [.int a', .int b, .int (c + 1), .ref B.L] := SqL.of hb'
        refine ⟨.ref B.b, rfl, B.b, _, 1, .int b, rfl, rfl, sB', atI_nat (j := 1) rfl, b, 48271, rfl, rfl, .inr ⟨by decide, by decide⟩, .int cell, rfl, .inl ⟨cell, rfl, cell, 2147483647, rfl, rfl, (by decide : (0 : Int) < 2147483647), _, _, rfl, rfl, ?_⟩⟩
        refine ⟨.ref B.b, rfl, B.b, _, 2, .int (c + 1), rfl, rfl, sB', atI_nat (j := 2) rfl, 7919, c + 1, rfl, rfl, .inl ⟨by decide, by decide⟩, _, _, rfl, rfl, ?_⟩
        refine ⟨_, rfl, .inl ⟨_, rfl, _, 2147483647, rfl, rfl, (by decide : (0 : Int) < 2147483647), .ref B.b, rfl, B.b, _, 1, 1, rfl, rfl, hb', rfl, some (.int cell), _, rfl, ?_⟩⟩
        exact bag_set g2 hL a0 (Int.emod_nonneg _ (by decide)) (Int.emod_lt_of_pos _ (by decide)) (Int.add_nonneg p4 (by decide)) p5 p6
  · obtain ⟨y2, y3, rfl, g⟩ := hm
    obtain ⟨a, b, c, ns, hb, hL, p1, p2, p3, p4, p5, p6⟩ := g.j.bag
    have sB : SqL K H' B.b [.int a, .int b, .int c, .ref B.L] := SqL.of hb
    refine ⟨.ref B.b, rfl, B.b, _, 0, .int a, rfl, rfl, sB, atI_nat (j := 0) rfl, a, 0, rfl, rfl, _, rfl, ite2 (fun _ => ?_) (fun _ => ?_)⟩
    · refine ⟨.ref B.b, rfl, B.b, _, 0, .int a, rfl, rfl, sB, atI_nat (j := 0) rfl, .inl ⟨a, rfl, .int n, rfl, a, n, rfl, rfl, n0, ?_⟩⟩
      refine ⟨.ref B.b, rfl, B.b, _, 0, .int a, rfl, rfl, sB, atI_nat (j := 0) rfl, .int n, rfl, a, n, rfl, rfl, ⟨n0, n1⟩, .ref B.b, rfl, B.b, _, 0, 0, rfl, rfl, hb, rfl, .int (a % n), rfl, ?_⟩
      refine kv _ _ (Int.emod_nonneg _ (by omega)) (Int.emod_lt_of_pos _ n0) ?_
      exact bag_set g hL (Int.ediv_nonneg p1 (by omega)) p2 p3 p4 p5 p6
    · refine ⟨.ref B.b, rfl, B.b, _, 1, .int b, rfl, rfl, sB, atI_nat (j := 1) rfl, b, 1, rfl, rfl, b + 1, 39373, rfl, rfl, .inr ⟨by decide, by decide⟩, .inl ⟨_, rfl, _, 1000000007, rfl, rfl, (by decide : (0 : Int) < 1000000007), ?_⟩⟩
      have q1 : 0 ≤ (b + 1) * 39373 % 1000000007 := Int.emod_nonneg _ (by decide)
      have q2 : (b + 1) * 39373 % 1000000007 < 1000000007 := Int.emod_lt_of_pos _ (by decide)
      have q3 : -(2 ^ 64) < (b + 1) * 39373 % 1000000007 := by omega
      have q4 : (b + 1) * 39373 % 1000000007 < 2 ^ 64 := by omega
      refine ⟨_, rfl, _, rfl, _, _, rfl, rfl, .inl ⟨q3, q4⟩, .inl ⟨_, rfl, _, 998244353, rfl, rfl, (by decide : (0 : Int) < 998244353), _, 30011, rfl, rfl, .inr ⟨by decide, by decide⟩, .inl ⟨_, rfl, _, 998244353, rfl, rfl, (by decide : (0 : Int) < 998244353), ?_⟩⟩⟩
      refine ⟨.int n, rfl, n, 1000000, rfl, rfl, _, rfl, ite2 (fun _ => ?_) (fun _ => ?_)⟩
      · refine ⟨_, rfl, _, 1000000007, rfl, rfl, .inr ⟨by decide, by decide⟩, _, rfl, _, _, rfl, rfl, .inl ⟨_, rfl, .int n, rfl, _, n, rfl, rfl, n0, ?_⟩⟩
        exact kv _ _ (Int.emod_nonneg _ (by omega)) (Int.emod_lt_of_pos _ n0) g
      · refine ⟨_, rfl, _, 7, rfl, rfl, ⟨by decide, by decide⟩, .inl ⟨_, rfl, .int n, rfl, _, n, rfl, rfl, n0, ?_⟩⟩
        exact kv _ _ (Int.emod_nonneg _ (by omega)) (Int.emod_lt_of_pos _ n0) g
def S__law_pick : FD := fun ds Q => match ds with
  | [.bag, .lst xs] => (0 < xs.length ∧ xs.length ≤ 1000) ∧ ∀ d, d ∈ xs → Q d
  | [.bag, .str x] => (0 < x.length ∧ x.length ≤ 1000) ∧ ∀ c, c ∈ x.cps.toList → Q (.str ⟨#[c]⟩)
  | _ => False
theorem len__law_pick : ∀ ds Q, S__law_pick ds Q → ds.length = 2
  | [.bag, .lst _], _, _ => rfl
  | [.bag, .str _], _, _ => rfl
def t__law_pick : DTS := (dRet (dOp oIx (dVar 1) (dCall S__law_take (dCons (dVar 0) (dCons (dCall cLen (dCons (dVar 1) dNil)) dNil)))))
theorem vc__law_pick : ∀ ds Q, S__law_pick ds Q → t__law_pick { nx := fun _ => Q .non, rt := Q } (startD [("_law_bag_here" : Str), "_law_things"].length ds)
  | [.bag, .lst xs], Q, h => by
    obtain ⟨⟨h0, h1⟩, hq⟩ := h
    simp only [t__law_pick, startD, startI, endI, List.map_cons, List.map_nil, List.length_cons, List.length_nil, Nat.reduceAdd, Nat.reduceSub, Nat.sub_self, List.replicate, List.cons_append, List.nil_append, List.append_nil, List.getElem?_cons_zero, List.getElem?_cons_succ, List.set_cons_zero, List.set_cons_succ, dVar, dC, dNil, dCons, dTup, fLst, dF, dOp, dUn, tBl, tAn, tOrr, tNt, dAn, dOr, dNt, dIfE, dCall, dNext, dSeq, dRet, dRetN, dDrop, dIfS, dBrk, dCnt, gN, gsNil, gsCons, gT, gL, dAsg, dSet, dPar, iSeq, iR1, iR2, dFor, fLc, wipeD, dYes, dStar, dMt, isT, dIsi, pureD, dFld, dProp, isO, dMeth, dMake, dCallO, dSelf, dSelf2, oNeg, oI, oIc, oSub, oMod, oDiv, oLt, oLe, oGt, oGe, oAdd, oMul, oIx, oEq, oNe, oIn, oSl, dSl, noP, aP, cLen, cInt, cAbs, cMax, cAll, cAny, cRepr, cTuple, mJoin, mCount, oOwn, oOwn1, oOwnNe, decide_true, decide_false, Bool.false_eq_true, if_true, if_false, beq_self_eq_true, true_and, and_true, atI0, atI1, atI2, atI3, atI4, atI5, atI6, atI7, Nat.reduceLeDiff, decide_true, gt_iff_lt, S__law_take]
    refine ⟨⟨by omega, small_log (by omega) (by omega)⟩, fun v v0 v1 => ?_⟩
    rw [atI_pos v0 v1]
    exact hq _ (List.getElem_mem _)
  | [.bag, .str x], Q, h => by
    obtain ⟨⟨h0, h1⟩, hq⟩ := h
    simp only [t__law_pick, startD, startI, endI, List.map_cons, List.map_nil, List.length_cons, List.length_nil, Nat.reduceAdd, Nat.reduceSub, Nat.sub_self, List.replicate, List.cons_append, List.nil_append, List.append_nil, List.getElem?_cons_zero, List.getElem?_cons_succ, List.set_cons_zero, List.set_cons_succ, dVar, dC, dNil, dCons, dTup, fLst, dF, dOp, dUn, tBl, tAn, tOrr, tNt, dAn, dOr, dNt, dIfE, dCall, dNext, dSeq, dRet, dRetN, dDrop, dIfS, dBrk, dCnt, gN, gsNil, gsCons, gT, gL, dAsg, dSet, dPar, iSeq, iR1, iR2, dFor, fLc, wipeD, dYes, dStar, dMt, isT, dIsi, pureD, dFld, dProp, isO, dMeth, dMake, dCallO, dSelf, dSelf2, oNeg, oI, oIc, oSub, oMod, oDiv, oLt, oLe, oGt, oGe, oAdd, oMul, oIx, oEq, oNe, oIn, oSl, dSl, noP, aP, cLen, cInt, cAbs, cMax, cAll, cAny, cRepr, cTuple, mJoin, mCount, oOwn, oOwn1, oOwnNe, decide_true, decide_false, Bool.false_eq_true, if_true, if_false, beq_self_eq_true, true_and, and_true, atI0, atI1, atI2, atI3, atI4, atI5, atI6, atI7, Nat.reduceLeDiff, decide_true, gt_iff_lt, S__law_take]
    have hz : x.length ≤ sizeLine := Nat.le_trans h1 (by decide)
    refine ⟨hz, ⟨by omega, small_log (by omega) (by omega)⟩, fun v v0 v1 => ?_⟩
    have v2 : v < x.cps.toList.length := by rw [len_toList]; exact v1
    rw [atI_pos v0 v2]
    exact ⟨hz, hq _ (List.getElem_mem _)⟩
theorem ok__law_pick {P : Program} {w : World} {K : PySem.W.Frag} {mg : Str → Option Value} {base : Heap} {B : Bx} (T : Top K mg B.ct) : FnOk P w K mg base CX0 2 T.f__law_pick.f T.f__law_pick.fd ["_law_bag_here", "_law_things"] (spD K B S__law_pick) := by
  refine fn_d (k := 1) (t := t__law_pick) T.f__law_pick.fn sc__law_pick len__law_pick (fun cdv A outer s H E hr => ?_) vc__law_pick
  refine psd_one ?_
  refine (psd_ret (pd_ix ix_d (pd_var 1) (pd_callD T.f__law_take (ok__law_take T) hr (by decide) (by rfl) (pad_cons (pd_var 0) (pad_cons (pd_callB call_len_d (by rfl) T.n_len (by decide +kernel) (pad_cons (pd_var 1) pad_nil)) pad_nil)))))
def _law_my_colours_at_6 : DTS := (dAppR (rVar 2) (dMt "str" mJoin (dC (.str (Str.ofString ""))) (dCons (dF (fLc (iR1 (dCons (dCall S__law_pick (dCons (dVar 0) (dCons (dVar 1) dNil))) dNil)) (gN 6) dYes (dCall S__law_pick (dCons (dVar 0) (dCons (dVar 4) dNil))) [6])) dNil)))
def _law_my_colours_at_5 : DTS := (dSeq (dSet 4 (dSl (dOp oAdd (dVar 4) (dVar 4)) (aP (dVar 5)) (aP (dOp oAdd (dVar 5) (dC (.int 3))))))
  _law_my_colours_at_6)
def _law_my_colours_at_4 : DTS := (dSeq (dSet 5 (dIfE (tBl (dOp oEq (dCall S__law_take (dCons (dVar 0) (dCons (dC (.int 3)) dNil))) (dC (.int 0)))) (dCall S__law_take (dCons (dVar 0) (dCons (dC (.int 26)) dNil))) (dC (.int 0))))
  _law_my_colours_at_5)
def b__law_my_colours_1 : DTS := (dSeq (dSet 4 (dC (.str (Str.ofString "abcdefghijklmnopqrstuvwxyz"))))
  _law_my_colours_at_4)
def _law_my_colours_at_7 : DTS := (dFrz 2 (dRet (dVar 2)))
def _law_my_colours_at_2 : DTS := (dSeq (dFor (iR1 (dCons (dC (.int 2)) dNil)) (gN 3) b__law_my_colours_1)
  _law_my_colours_at_7)
def t__law_my_colours : DTS := (dSeq (dSetT 2 (oF (fLst dNil)))
  _law_my_colours_at_2)
def S__law_my_colours : FD := fun ds Q => ds.length = 2 ∧ t__law_my_colours { nx := fun _ => Q .non, rt := Q } (startD 7 ds)
theorem len__law_my_colours : ∀ ds Q, S__law_my_colours ds Q → ds.length = 2 := fun _ _ h => h.1
theorem vc__law_my_colours : ∀ ds Q, S__law_my_colours ds Q → t__law_my_colours { nx := fun _ => Q .non, rt := Q } (startD 7 ds) := fun _ _ h => h.2
theorem ok__law_my_colours {P : Program} {w : World} {K : PySem.W.Frag} {mg : Str → Option Value} {base : Heap} {B : Bx} (T : Top K mg B.ct) : FnOk P w K mg base CX0 3 T.f__law_my_colours.f T.f__law_my_colours.fd ["_law_bag_here", "_law_sizes"] (spD K B S__law_my_colours) := by
  refine fn_d (k := 2) (t := t__law_my_colours) T.f__law_my_colours.fn sc__law_my_colours len__law_my_colours (fun cdv A outer s H E hr => ?_) vc__law_my_colours
  refine psd_cons ?_ ?_
  · refine (psd_setT (i := 2) sc__law_my_colours.nd rfl (by first | exact .inl rfl | exact .inr rfl) (po_f (pf_lst pad_nil)))
  refine psd_cons ?_ ?_
  · refine psd_for PassesOwn.never rfl (pid_r1 (by rfl) T.n_range (pad_cons pd_int pad_nil)) (pgd_name (i := 3) sc__law_my_colours.nd rfl (by first | exact .inl rfl | exact .inr rfl)) ?_
    refine psd_cons ?_ ?_
    · refine (psd_set (i := 4) sc__law_my_colours.nd rfl (by first | exact .inl rfl | exact .inr rfl) pd_str)
    refine psd_cons ?_ ?_
    · refine (psd_set (i := 5) sc__law_my_colours.nd rfl (by first | exact .inl rfl | exact .inr rfl) (pd_ifE (ptd_cmp (op_eq_d hr.units) (pd_callD T.f__law_take (ok__law_take T) hr (by decide) (by rfl) (pad_cons (pd_var 0) (pad_cons pd_int pad_nil))) pd_int (by rfl)) (pd_callD T.f__law_take (ok__law_take T) hr (by decide) (by rfl) (pad_cons (pd_var 0) (pad_cons pd_int pad_nil))) pd_int))
    refine psd_cons ?_ ?_
    · refine (psd_set (i := 4) sc__law_my_colours.nd rfl (by first | exact .inl rfl | exact .inr rfl) (pd_slice (pd_bin op_add_d (pd_var 4) (pd_var 4)) (pod_some (pd_var 5)) (pod_some (pd_bin op_add_d (pd_var 5) pd_int))))
    refine psd_one ?_
    refine (psd_appR (pr_var (pv 2)) (pd_bm PySem.F.plainAttrs_str PySem.F.slot_str_join PySem.F.type_str_join mt_join_d pd_str (pad_cons (pd_f (pf_lc rfl sc__law_my_colours.nd (pid_r1 (by rfl) T.n_range ?h3) (blkOk_by (own := [("_law_one", 6)]) (by rfl)) (by decide) (fun _ _ _ _ _ => (pgd_name (i := 6) sc__law_my_colours.nd rfl (by first | exact .inl rfl | exact .inr rfl))) (fun _ _ _ _ _ => ptsd_nil) (fun _ _ _ _ _ => ?h4))) pad_nil)))
    case h3 => exact (pad_cons (pd_callD T.f__law_pick (ok__law_pick T) hr (by decide) (by rfl) (pad_cons (pd_var 0) (pad_cons (pd_var 1) pad_nil))) pad_nil)
    case h4 => exact (pd_callD T.f__law_pick (ok__law_pick T) hr (by decide) (by rfl) (pad_cons (pd_var 0) (pad_cons (pd_var 4) pad_nil)))
  refine psds_frz 2 ?_
  refine psd_one ?_
  refine (psd_ret (pd_var 2))
def S__law_alike : FD := fun ds Q => match ds with
  | [x, y] => (x = y ∧ ((DL.plain x = true ∧ x.wt ≤ 16000000) ∨ ((∃ xs, x = .lst xs ∨ x = .tup xs) ∧ richX x = true))) ∧ Q (.bl true)
  | _ => False
theorem len__law_alike : ∀ ds Q, S__law_alike ds Q → ds.length = 2
  | [_, _], _, _ => rfl
def t__law_alike : DTS := (dRet (dAn (dOp oEqX (dVar 0) (dVar 1)) (dOp oEqX (dCall cReprX (dCons (dVar 0) dNil)) (dCall cReprX (dCons (dVar 1) dNil)))))
theorem eqA_self {x : D} {Q : D → Prop} (h : DL.plain x = true) (hq : Q (.bl true)) : oEqA x x Q := by
  have k : oEq x x Q := eq_self h hq
  cases x with
  | dic ks => cases h
  | _ => exact k
theorem rpA_plain {x : D} {Q : D → Prop} (h : DL.plain x = true) (k : cRepr [x] Q) : cReprA [x] Q := by
  cases x with
  | dic ks => cases h
  | _ => exact k
theorem vc__law_alike : ∀ ds Q, S__law_alike ds Q → t__law_alike { nx := fun _ => Q .non, rt := Q } (startD 2 ds)
  | [x, y], Q, h => by
    obtain ⟨⟨rfl, h⟩, hq⟩ := h
    rcases h with ⟨h1, h2⟩ | ⟨⟨xs, hx⟩, hr⟩
    · show oEqX x x fun z => match z with | .bl c => if c = true then _ else _ | _ => False
      rw [z_eqX]
      refine .inr (eqA_self h1 ?_)
      show cReprX [x] fun u => cReprX [x] fun v => oEqX u v Q
      rw [z_rpX]
      refine .inr (rpA_plain h1 ?_)
      refine ⟨⟨h1, h2⟩, ?_⟩
      show cReprX [x] fun v => oEqX (.str x.py.shown) v Q
      rw [z_rpX]
      refine .inr (rpA_plain h1 ?_)
      refine ⟨⟨h1, h2⟩, ?_⟩
      show oEqX (.str x.py.shown) (.str x.py.shown) Q
      rw [z_eqX]
      refine .inr ?_
      show Q (.bl (decide _))
      rw [decide_eq_true rfl]
      exact hq
    · show oEqX x x fun z => match z with | .bl c => if c = true then _ else _ | _ => False
      rw [z_eqX]
      refine .inl ⟨⟨xs, hx, rfl, hr⟩, ?_⟩
      show cReprX [x] fun u => cReprX [x] fun v => oEqX u v Q
      rw [z_rpX]
      refine .inl ⟨x, xs, rfl, hx, hr, ?_⟩
      show cReprX [x] fun v => oEqX (.str (pyX x).shown) v Q
      rw [z_rpX]
      refine .inl ⟨x, xs, rfl, hx, hr, ?_⟩
      show oEqX (.str (pyX x).shown) (.str (pyX x).shown) Q
      rw [z_eqX]
      refine .inr ?_
      show Q (.bl (decide _))
      rw [decide_eq_true rfl]
      exact hq
theorem alike_same {d : D} {Q : D → Prop} (h : DL.plain d = true) (hw : d.wt ≤ 16000000) (hq : Q (.bl true)) : S__law_alike [d, d] Q := ⟨⟨rfl, .inl ⟨h, hw⟩⟩, hq⟩
theorem alike_richT {xs : List D} {Q : D → Prop} (h : richX (.tup xs) = true) (hq : Q (.bl true)) : S__law_alike [.tup xs, .tup xs] Q := ⟨⟨rfl, .inr ⟨⟨xs, .inr rfl⟩, h⟩⟩, hq⟩
theorem ok__law_alike {P : Program} {w : World} {K : PySem.W.Frag} {mg : Str → Option Value} {base : Heap} {B : Bx} (T : Top K mg B.ct) : FnG P w K mg base CX0 1 T.f__law_alike.f T.f__law_alike.fd ["_law_found", "_law_due"] (spD K B S__law_alike) := by
  refine fng_d (k := 0) (t := t__law_alike) T.f__law_alike.fn sc__law_alike len__law_alike (fun cdv A outer s H E hgd hr => ?_) vc__law_alike
  have hgd : (cxOf CX0 P w K mg base ["_law_found", "_law_due"] "_law_alike" (defScope s__law_alike) T.f__law_alike.f cdv A outer s H E).nox.A.guards = some [] := hgd
  have hu70 : (cxOf CX0 P w K mg base ["_law_found", "_law_due"] "_law_alike" (defScope s__law_alike) T.f__law_alike.f cdv A outer s H E).nox.A.units + 70 < cLine := Nat.lt_of_le_of_lt (Nat.add_le_add_left (by decide : 70 ≤ 16 * 0 + 200) _) hr.un
  refine psd_one ?_
  refine (psd_ret (pd_and (pd_cmp (op_eqX hu70) (pd_var 0) (pd_var 1) (by rfl)) (pd_1 (pd_cmp (op_eqX hu70) (pd_callB (call_reprX hgd hu70) (by rfl) T.n_repr (by decide +kernel) (pad_cons (pd_var 0) pad_nil)) (pd_callB (call_reprX hgd hu70) (by rfl) T.n_repr (by decide +kernel) (pad_cons (pd_var 1) pad_nil)) (by rfl)))))
def _law_my_colour_at_2 : DTS := (dRet (dOp oIx (dVar 3) (dOp oMod (dCall cInt (dCons (dVar 2) dNil)) (dCall cLen (dCons (dVar 3) dNil)))))
def t__law_my_colour : DTS := (dSeq (dSet 3 (dOp oIx (dVar 0) (dCall cInt (dCons (dOp oEq (dVar 1) (dC (.str (Str.ofString "moon")))) dNil))))
  _law_my_colour_at_2)
def S__law_my_colour : FD := fun ds Q => ds.length = 3 ∧ t__law_my_colour { nx := fun _ => Q .non, rt := Q } (startD 4 ds)
theorem len__law_my_colour : ∀ ds Q, S__law_my_colour ds Q → ds.length = 3 := fun _ _ h => h.1
theorem vc__law_my_colour : ∀ ds Q, S__law_my_colour ds Q → t__law_my_colour { nx := fun _ => Q .non, rt := Q } (startD 4 ds) := fun _ _ h => h.2
theorem ok__law_my_colour {P : Program} {w : World} {K : PySem.W.Frag} {mg : Str → Option Value} {base : Heap} {B : Bx} (T : Top K mg B.ct) : FnOk P w K mg base CX0 1 T.f__law_my_colour.f T.f__law_my_colour.fd ["_law_colours", "_law_side", "_law_k"] (spD K B S__law_my_colour) := by
  refine fn_d (k := 0) (t := t__law_my_colour) T.f__law_my_colour.fn sc__law_my_colour len__law_my_colour (fun cdv A outer s H E hr => ?_) vc__law_my_colour
  refine psd_cons ?_ ?_
  · refine (psd_set (i := 3) sc__law_my_colour.nd rfl (by first | exact .inl rfl | exact .inr rfl) (pd_ix ix_d (pd_var 0) (pd_callTy call_int_d (by rfl) T.n_int (by decide +kernel) (pad_cons (pd_cmp (op_eq_d hr.units) (pd_var 1) pd_str (by rfl)) pad_nil))))
  refine psd_one ?_
  refine (psd_ret (pd_ix ix_d (pd_var 3) (pd_bin op_mod_d (pd_callTy call_int_d (by rfl) T.n_int (by decide +kernel) (pad_cons (pd_var 2) pad_nil)) (pd_callB call_len_d (by rfl) T.n_len (by decide +kernel) (pad_cons (pd_var 3) pad_nil)))))
def _law_same_at_4 : DTS := (dIfS (tBl (dOp oNe (dVar 4) (dF (fLc (iR1 (dCons (dVar 2) dNil)) (gN 5) dYes (dCall S__law_my_colour (dCons (dVar 1) (dCons (dVar 3) (dCons (dVar 5) dNil)))) [5])))) (dRet (dC (.bl false))) dNext)
def b__law_same_1 : DTS := (dSeq (dSet 4 (dF (fLc (iR1 (dCons (dVar 2) dNil)) (gN 5) dYes (dCall S__law_my_colour (dCons (dVar 0) (dCons (dVar 3) (dCons (dVar 5) dNil)))) [5])))
  _law_same_at_4)
def _law_same_at_6 : DTS := (dRet (dC (.bl true)))
def _law_same_at_2 : DTS := (dSeq (dFor (iSeq (dTup (dCons (dC (.str (Str.ofString "sun"))) (dCons (dC (.str (Str.ofString "moon"))) dNil)))) (gN 3) b__law_same_1)
  _law_same_at_6)
def t__law_same : DTS := (dSeq (dSet 2 (dC (.int 60)))
  _law_same_at_2)
def S__law_same : FD := fun ds Q => ds.length = 2 ∧ t__law_same { nx := fun _ => Q .non, rt := Q } (startD 6 ds)
theorem len__law_same : ∀ ds Q, S__law_same ds Q → ds.length = 2 := fun _ _ h => h.1
theorem vc__law_same : ∀ ds Q, S__law_same ds Q → t__law_same { nx := fun _ => Q .non, rt := Q } (startD 6 ds) := fun _ _ h => h.2
theorem ok__law_same {P : Program} {w : World} {K : PySem.W.Frag} {mg : Str → Option Value} {base : Heap} {B : Bx} (T : Top K mg B.ct) : FnOk P w K mg base CX0 2 T.f__law_same.f T.f__law_same.fd ["_law_one", "_law_other"] (spD K B S__law_same) := by
  refine fn_d (k := 1) (t := t__law_same) T.f__law_same.fn sc__law_same len__law_same (fun cdv A outer s H E hr => ?_) vc__law_same
  refine psd_cons ?_ ?_
  · refine (psd_set (i := 2) sc__law_same.nd rfl (by first | exact .inl rfl | exact .inr rfl) pd_int)
  refine psd_cons ?_ ?_
  · refine psd_for PassesOwn.never rfl (pid_seq ?h4) (pgd_name (i := 3) sc__law_same.nd rfl (by first | exact .inl rfl | exact .inr rfl)) ?_
    case h4 => exact (pd_tup (pad_cons pd_str (pad_cons pd_str pad_nil)))
    refine psd_cons ?_ ?_
    · refine (psd_setLc (i := 4) rfl sc__law_same.nd rfl rfl (sw_true rfl rfl rfl (by decide +kernel)) (pid_r1 (by rfl) T.n_range (pad_cons (pd_var 2) pad_nil)) (blkOk_by (own := [("_law_k", 5)]) (by rfl)) (by decide) (fun _ _ _ _ _ => (pgd_name (i := 5) sc__law_same.nd rfl (by first | exact .inl rfl | exact .inr rfl))) (fun _ _ _ _ _ => ptsd_nil) (fun _ _ _ _ _ => ?h5))
      case h5 => exact (pd_callD T.f__law_my_colour (ok__law_my_colour T) hr (by decide) (by rfl) (pad_cons (pd_var 0) (pad_cons (pd_var 3) (pad_cons (pd_var 5) pad_nil))))
    refine psd_one ?_
    refine psd_if (ptd_cmp (op_ne_d hr.units) (pd_var 4) (pd_f (pf_lc rfl sc__law_same.nd (pid_r1 (by rfl) T.n_range (pad_cons (pd_var 2) pad_nil)) (blkOk_by (own := [("_law_k", 5)]) (by rfl)) (by decide) (fun _ _ _ _ _ => (pgd_name (i := 5) sc__law_same.nd rfl (by first | exact .inl rfl | exact .inr rfl))) (fun _ _ _ _ _ => ptsd_nil) (fun _ _ _ _ _ => ?h6))) (by rfl)) ?_ ?_
    case h6 => exact (pd_callD T.f__law_my_colour (ok__law_my_colour T) hr (by decide) (by rfl) (pad_cons (pd_var 1) (pad_cons (pd_var 3) (pad_cons (pd_var 5) pad_nil))))
    · refine psd_one ?_
      refine (psd_ret pd_bl)
    · exact psd_nil
  refine psd_one ?_
  refine (psd_ret pd_bl)
abbrev okc__law_refused : Nat → Bool := fun c => c == 21 || c == 24
def hd__law_refused : Nat → Str → D → Option D := fun c f y => match c with | 21 => (if true = true then (if f = "place" then some (.tup [.str "wrong", y]) else none) else (if false = true then (if f = "ribbon" then some (.tup [.str "none", y]) else none) else (some (.tup [.str "other", .non])))) | 24 => (if false = true then (if f = "place" then some (.tup [.str "wrong", y]) else none) else (if true = true then (if f = "ribbon" then some (.tup [.str "none", y]) else none) else (some (.tup [.str "other", .non])))) | _ => none
theorem exm__law_refused {P : Program} {w : World} {K : PySem.W.Frag} {mg : Str → Option Value} {base : Heap} {B : Bx} (T : Top K mg B.ct) (TX : TopX P w K mg base B.ct T) : ∀ c, okc__law_refused c = true → PySem.W.exmOne K (.ref (B.ct c)) (.ref (B.ct 20)) = some true := fun c h => by
  simp only [okc__law_refused, Bool.or_eq_true, beq_iff_eq] at h
  rcases h with rfl | rfl
  · exact TX.exm_Wrong
  · exact TX.exm_NoRibbon
theorem suite__law_refused {P : Program} {w : World} {K : PySem.W.Frag} {mg : Str → Option Value} {base : Heap} {B : Bx} {g : Addr} {cdv : Value} {A : Around} {stk : List Env} (T : Top K mg B.ct) (TX : TopX P w K mg base B.ct T) : ∀ (u : Option (Hp × Hp)) (s : Shared) (H : Hp) (c : Nat) (f : Str) (y : D) (a dd : Addr) (oe : Obj) (pn : List (Addr × Obj)), okc__law_refused c = true → Zc (.ref (B.ct c)) (some dd) oe → (∃ vs, oe.data = .fields vs) →
    PSs ((cxOf C8.CX0 P w K mg base ["_law_act", "e"] "_law_refused" (defScope s__law_refused) g cdv A stk s H C8.E0).nox.suite a ((a, oe) :: pn)) (handBodyE s__law_refused) (tVS K (B.at u) a dd f y 1 (hd__law_refused c f y)) := fun u s H c f y a dd oe pn h hz hf => by
  simp only [okc__law_refused, Bool.or_eq_true, beq_iff_eq] at h
  rcases h with rfl | rfl
  · have e : hd__law_refused 21 f y = (if true = true then (if f = "place" then some (.tup [.str "wrong", y]) else none) else (if false = true then (if f = "ribbon" then some (.tup [.str "none", y]) else none) else (some (.tup [.str "other", .non])))) := rfl
    rw [e]
    refine pvs_ifE rfl ?_ ?_ ?_
    · exact (pv_is TX.ec_Wrong hz hf TX.ki_Wrong_Wrong (by rfl) T.n_isinstance (by rfl) TX.e_Wrong.g (en := "e") rfl (.inl rfl))
    · exact (pv_fld TX.xf_Wrong TX.nf_Wrong_place hz hf rfl (.inl rfl))
    refine pvs_retE rfl ?_
    exact (pv_ife (pv_is TX.ec_Wrong hz hf TX.ki_Wrong_NoRibbon (by rfl) T.n_isinstance (by rfl) TX.e_NoRibbon.g (en := "e") rfl (.inl rfl)) (pv_fld TX.xf_Wrong TX.nf_Wrong_ribbon hz hf rfl (.inl rfl)) pv_oth)
  · have e : hd__law_refused 24 f y = (if false = true then (if f = "place" then some (.tup [.str "wrong", y]) else none) else (if true = true then (if f = "ribbon" then some (.tup [.str "none", y]) else none) else (some (.tup [.str "other", .non])))) := rfl
    rw [e]
    refine pvs_ifE rfl ?_ ?_ ?_
    · exact (pv_is TX.ec_NoRibbon hz hf TX.ki_NoRibbon_Wrong (by rfl) T.n_isinstance (by rfl) TX.e_Wrong.g (en := "e") rfl (.inl rfl))
    · exact (pv_fld TX.xf_NoRibbon TX.nf_NoRibbon_place hz hf rfl (.inl rfl))
    refine pvs_retE rfl ?_
    exact (pv_ife (pv_is TX.ec_NoRibbon hz hf TX.ki_NoRibbon_NoRibbon (by rfl) T.n_isinstance (by rfl) TX.e_NoRibbon.g (en := "e") rfl (.inl rfl)) (pv_fld TX.xf_NoRibbon TX.nf_NoRibbon_ribbon hz hf rfl (.inl rfl)) pv_oth)
def xColours_shown_at_4 (Wx : XW) : DTS := (dRet (dOp oIx (dVar 2) (dOp oMod (dOp oIx (dVar 1) (dC (.int 1))) (dCall cLen (dCons (dVar 2) dNil)))))
def xColours_shown_at_3 (Wx : XW) : DTS := (dSeq (dSet 2 (dIfE (tBl (dOp oEq (dOp oIx (dVar 1) (dC (.int 0))) (dC (.str (Str.ofString "sun"))))) (dFld 4 1 (dVar 0)) (dFld 4 0 (dVar 0))))
  (xColours_shown_at_4 Wx))
def tx_Colours_shown (Wx : XW) : DTS := (dSeq (dIfS (tOrr (tNt (tBl (dIsi "tuple" (dVar 1)))) (tOrr (tBl (dOp oNe (dCall cLen (dCons (dVar 1) dNil)) (dC (.int 2)))) (tOrr (tNt (tBl (dCall S_is_side (dCons (dOp oIx (dVar 1) (dC (.int 0))) dNil)))) (tNt (tBl (dCall S_is_count (dCons (dOp oIx (dVar 1) (dC (.int 1))) dNil))))))) (dRaise Wx 24 "ribbon" (dVar 1)) dNext)
  (xColours_shown_at_3 Wx))
def Sx_Colours_shown (Wx : XW) : FD := fun ds Q => ds.length = 2 ∧ tx_Colours_shown Wx { nx := fun _ => Q .non, rt := Q } (startD 3 ds)
theorem okx_Colours_shown {P : Program} {w : World} {K : PySem.W.Frag} {mg : Str → Option Value} {base : Heap} {B : Bx} {Wx : XW} (T : Top K mg B.ct) (TX : TopX P w K mg base B.ct T) : FnOk P w K mg base (L2.CX P w) 3 T.i_Colours_shown.f T.i_Colours_shown.fd ["self", "ribbon"] (spX K B Wx (Sx_Colours_shown Wx)) := by
  refine fn_dX (k := 2) (t := tx_Colours_shown Wx) T.i_Colours_shown.fn sc_Colours_shown (fun ds Q h => h.1) (fun cdv A outer s H E hr tk => ?_) (fun _ _ h => h.2)
  refine psd_cons ?_ ?_
  · refine psd_if (pwd_or (ptd_not (ptd_val (pd_isi known_tuple (by rfl) T.n_isinstance (by rfl) T.n_tuple (by decide +kernel) (pd_var 1)))) (pwd_or (ptd_cmp (op_ne_d hr.units) (pd_callB call_len_d (by rfl) T.n_len (by decide +kernel) (pad_cons (pd_var 1) pad_nil)) pd_int (by rfl)) (pwd_or (ptd_not (ptd_val (pd_callD T.f_is_side (ok_is_side T) hr (by decide) (by rfl) (pad_cons (pd_ix ix_d (pd_var 1) pd_int) pad_nil)))) (pwd_or1 (ptd_not (ptd_val (pd_callD T.f_is_count (ok_is_count T) hr (by decide) (by rfl) (pad_cons (pd_ix ix_d (pd_var 1) pd_int) pad_nil)))))))).pt ?_ ?_
    · refine psd_one ?_
      refine (psd_raise rfl tk TX.e_NoRibbon.oex TX.e_NoRibbon.init TX.e_NoRibbon.ty TX.e_NoRibbon.ok TX.e_NoRibbon.bd (hr.mono (by decide)) (by rfl) TX.e_NoRibbon.g (pd_var 1))
    · exact psd_nil
  refine psd_cons ?_ ?_
  · refine (psd_set (i := 2) sc_Colours_shown.nd rfl (by first | exact .inl rfl | exact .inr rfl) (pd_ifE (ptd_cmp (op_eq_d hr.units) (pd_ix ix_d (pd_var 1) pd_int) pd_str (by rfl)) (pd_fldD T.c_Colours T.s_Colours_its_suns (pd_var 0)) (pd_fldD T.c_Colours T.s_Colours_its_moons (pd_var 0))))
  refine psd_one ?_
  refine (psd_ret (pd_ix ix_d (pd_var 2) (pd_bin op_mod_d (pd_ix ix_d (pd_var 1) pd_int) (pd_callB call_len_d (by rfl) T.n_len (by decide +kernel) (pad_cons (pd_var 2) pad_nil)))))
def xb_Colours___init___1 (Wx : XW) : DTS := (dIfS (tNt (tBl (dCall S_are_colours (dCons (dVar 4) dNil)))) (dRaise Wx 21 "place" (dVar 3)) dNext)
def tx_Colours___init__ (Wx : XW) : DTS := (dSeq (dFor (iEn (dCons (dF (fLst (dCons (dVar 1) (dCons (dVar 2) dNil)))) dNil)) (gT 2 (gsCons (gN 3) (gsCons (gN 4) gsNil))) (xb_Colours___init___1 Wx))
  (dSelf2 0 1 0 4 (dTup (dCons (dVar 1) (dCons (dVar 2) dNil)))))
def Sx_Colours___init__ (Wx : XW) : FI := fun ds Q => ds.length + 1 = 3 ∧ ∀ x, tx_Colours___init__ Wx (endI x 4 Q) (startI 5 x 4 ds)
theorem okx_Colours___init__ {P : Program} {w : World} {K : PySem.W.Frag} {mg : Str → Option Value} {base : Heap} {B : Bx} {Wx : XW} (T : Top K mg B.ct) (TX : TopX P w K mg base B.ct T) : FnOk P w K mg base (L2.CX P w) 3 T.i_Colours___init__.f T.i_Colours___init__.fd ["self", "suns", "moons"] (spIX K B 4 Wx (Sx_Colours___init__ Wx)) := by
  refine fn_initX (k := 2) (t := tx_Colours___init__ Wx) T.i_Colours___init__.fn sc_Colours___init__ (fun ds Q h => h.1) (by decide) (fun cdv A outer s H E hr tk => ?_) (fun x _ _ h => h.2 x)
  refine psd_cons ?_ ?_
  · refine psd_for (passes_of rfl) rfl (pid_enum (by rfl) T.n_enumerate ?h2) (pgd_tup rfl (pgsd_cons (pgd_name (i := 3) sc_Colours___init__.nd rfl (by first | exact .inl rfl | exact .inr rfl)) (pgsd_cons (pgd_name (i := 4) sc_Colours___init__.nd rfl (by first | exact .inl rfl | exact .inr rfl)) pgsd_nil))) ?_
    case h2 => exact (pad_cons (pd_f (pf_lst (pad_cons (pd_var 1) (pad_cons (pd_var 2) pad_nil)))) pad_nil)
    refine psd_one ?_
    refine psd_if (ptd_not (ptd_val (pd_callD T.f_are_colours (ok_are_colours T) hr (by decide) (by rfl) (pad_cons (pd_var 4) pad_nil)))) ?_ ?_
    · refine psd_one ?_
      refine (psd_raise rfl tk TX.e_Wrong.oex TX.e_Wrong.init TX.e_Wrong.ty TX.e_Wrong.ok TX.e_Wrong.bd (hr.mono (by decide)) (by rfl) TX.e_Wrong.g (pd_var 3))
    · exact psd_nil
  refine psd_one ?_
  refine (psd_self2D rfl T.c_Colours T.s_Colours_its_suns T.s_Colours_its_moons (pv 0) (pv 0) (pd_tup (pad_cons (pd_var 1) (pad_cons (pd_var 2) pad_nil))))
def _law_right_at_11 : DTS := (dIfS (tNt (tBl (dCall S__law_alike (dCons (dHeardE "told" okc__law_refused hd__law_refused fun Wx => (dMeth 4 (Sx_Colours_shown Wx) (dVar 2) (dCons (dVar 5) dNil))) (dCons (dTup (dCons (dC (.str (Str.ofString "none"))) (dCons (dVar 5) dNil))) dNil))))) (dRet (dC (.bl false))) dNext)
def _law_right_at_10 : DTS := (dSeq (dSet 5 (dOp oIx (dVar 5) (dCall S__law_take (dCons (dVar 0) (dCons (dC (.int 12)) dNil)))))
  _law_right_at_11)
def _law_right_at_9 : DTS := (dSeq (dSet 5 (dOp oAdd (dVar 5) (dF (fLst (dCons (dTup (dCons (dC (.str (Str.ofString "sun"))) (dCons (dC (.int 0)) (dCons (dC (.int 0)) dNil)))) (dCons (dTup (dCons (dC (.str (Str.ofString "moon"))) (dCons (dC (.int 1)) (dCons (dC .non) dNil)))) (dCons (dC (.int 5)) (dCons dDic0 dNil))))))))
  _law_right_at_10)
def _law_right_at_8 : DTS := (dSeq (dSet 5 (dF (fLst (dCons (dTup (dCons (dC (.str (Str.ofString "sun"))) (dCons (dUn oNeg (dC (.int 1))) dNil))) (dCons (dTup (dCons (dC (.str (Str.ofString "moon"))) (dCons (dC (.bl true)) dNil))) (dCons (dF (fLst (dCons (dC (.str (Str.ofString "sun"))) (dCons (dC (.int 0)) dNil)))) (dCons (dTup (dCons (dC (.str (Str.ofString "sun"))) dNil)) (dCons (dTup (dCons (dC (.str (Str.ofString "Sun"))) (dCons (dC (.int 0)) dNil))) (dCons (dC .non) (dCons (dTup (dCons (dC (.str (Str.ofString "sun"))) (dCons (dC (.str (Str.ofString "0"))) dNil))) (dCons (dTup (dCons (dF (fLst dNil)) (dCons (dC (.int 0)) dNil))) dNil)))))))))))
  _law_right_at_9)
def _law_right_at_6 : DTS := (dSeq (dIfS (tNt (tBl (dCall S__law_alike (dCons (dMeth 4 S_Colours_shown (dVar 2) (dCons (dVar 4) dNil)) (dCons (dCall S__law_my_colour (dCons (dVar 1) (dCons (dOp oIx (dVar 4) (dC (.int 0))) (dCons (dOp oIx (dVar 4) (dC (.int 1))) dNil)))) dNil))))) (dRet (dC (.bl false))) dNext)
  _law_right_at_8)
def b__law_right_1 : DTS := (dSeq (dSet 4 (dTup (dCons (dOp oIx (dF (fLst (dCons (dC (.str (Str.ofString "sun"))) (dCons (dC (.str (Str.ofString "moon"))) dNil)))) (dCall S__law_take (dCons (dVar 0) (dCons (dC (.int 2)) dNil)))) (dCons (dCall S__law_pick (dCons (dVar 0) (dCons (dF (fLst (dCons (dC (.int 0)) (dCons (dC (.int 1)) (dCons (dC (.int 2)) (dCons (dC (.int 5)) (dCons (dC (.int 17)) (dCons (dOp oAdd (dOp oPow (dC (.int 10)) (dC (.int 39))) (dCall S__law_take (dCons (dVar 0) (dCons (dC (.int 9)) dNil)))) dNil)))))))) dNil))) dNil))))
  _law_right_at_6)
def _law_right_at_17 : DTS := (dIfS (tNt (tBl (dCall S__law_alike (dCons (dF (fLst (dCons (dOp (oOwnA 4 [] S_Colours___eq__) (dVar 2) (dVar 8)) (dCons (dOp (oOwnA 4 [] S_Colours___eq__) (dVar 8) (dVar 2)) (dCons (dOp (oOwnNeA 4 [] S_Colours___eq__) (dVar 2) (dVar 8)) dNil))))) (dCons (dF (fLst (dCons (dVar 9) (dCons (dVar 9) (dCons (dNt (dVar 9)) dNil))))) dNil))))) (dRet (dC (.bl false))) dNext)
def _law_right_at_16 : DTS := (dSeq (dSet 9 (dCall S__law_same (dCons (dVar 1) (dCons (dVar 7) dNil))))
  _law_right_at_17)
def b__law_right_2 : DTS := (dSeq (dSet 8 (dMake 4 S_Colours___init__ (dCons (dOp oIx (dVar 7) (dC (.int 0))) (dCons (dOp oIx (dVar 7) (dC (.int 1))) dNil))))
  _law_right_at_16)
def _law_right_at_19 : DTS := (dRet (dAn (dOp (oOwnNeA 4 [] S_Colours___eq__) (dVar 2) (dVar 1)) (dAn (dNt (dOp (oOwnA 4 [] S_Colours___eq__) (dVar 2) (dC .non))) (dOp (oOwnNeA 4 [] S_Colours___eq__) (dVar 2) (dCall cTuple (dCons (dVar 1) dNil))))))
def _law_right_at_14 : DTS := (dSeq (dFor (iSeq (dOp oAdd (dVar 6) (dF (fLst (dCons (dCall S__law_my_colours (dCons (dVar 0) (dCons (dF (fLst (dCons (dC (.int 1)) (dCons (dC (.int 2)) (dCons (dC (.int 3)) dNil))))) dNil))) dNil))))) (gN 7) b__law_right_2)
  _law_right_at_19)
def _law_right_at_13 : DTS := (dSeq (dSet 6 (dF (fLst (dCons (dF (fLst (dCons (dOp oMul (dOp oIx (dVar 1) (dC (.int 0))) (dC (.int 2))) (dCons (dOp oIx (dVar 1) (dC (.int 1))) dNil)))) (dCons (dF (fLst (dCons (dOp oIx (dVar 1) (dC (.int 0))) (dCons (dOp oMul (dOp oIx (dVar 1) (dC (.int 1))) (dC (.int 3))) dNil)))) (dCons (dF (fLst (dCons (dOp oAdd (dSl (dOp oIx (dVar 1) (dC (.int 0))) (aP (dC (.int 1))) noP) (dSl (dOp oIx (dVar 1) (dC (.int 0))) noP (aP (dC (.int 1))))) (dCons (dOp oIx (dVar 1) (dC (.int 1))) dNil)))) (dCons (dF (fRev (dVar 1))) dNil)))))))
  _law_right_at_14)
def _law_right_at_4 : DTS := (dSeq (dFor (iR1 (dCons (dC (.int 6)) dNil)) (gN 3) b__law_right_1)
  _law_right_at_13)
def _law_right_at_2 : DTS := (dSeq (dIfS (tNt (tBl (dCall S__law_alike (dCons (dF (fLst (dCons (dProp 4 S_Colours_suns (dVar 2)) (dCons (dProp 4 S_Colours_moons (dVar 2)) dNil)))) (dCons (dVar 1) dNil))))) (dRet (dC (.bl false))) dNext)
  _law_right_at_4)
def t__law_right : DTS := (dSeq (dSet 2 (dMake 4 S_Colours___init__ (dCons (dOp oIx (dVar 1) (dC (.int 0))) (dCons (dOp oIx (dVar 1) (dC (.int 1))) dNil))))
  _law_right_at_2)
def S__law_right : FD := fun ds Q => ds.length = 2 ∧ t__law_right { nx := fun _ => Q .non, rt := Q } (startD 10 ds)
theorem len__law_right : ∀ ds Q, S__law_right ds Q → ds.length = 2 := fun _ _ h => h.1
theorem vc__law_right : ∀ ds Q, S__law_right ds Q → t__law_right { nx := fun _ => Q .non, rt := Q } (startD 10 ds) := fun _ _ h => h.2
theorem ok__law_right {P : Program} {w : World} {K : PySem.W.Frag} {mg : Str → Option Value} {base : Heap} {B : Bx} (T : Top K mg B.ct) (TX : TopX P w K mg base B.ct T) (hB : B.tb = tbs TX) : FnG P w K mg base CX0 6 T.f__law_right.f T.f__law_right.fd ["_law_bag_here", "_law_told"] (spD K B S__law_right) := by
  refine fng_dC (k := 5) (t := t__law_right) T.f__law_right.fn sc__law_right len__law_right (fun c A outer s H E hec hgd hr => ?_) vc__law_right
  obtain rfl : c = TX.cd__law_right := by injection hec.symm.trans TX.cc__law_right
  have hmT : (TX.tp__law_right, ("_law_right" ++ ".<locals>." : Str) ++ "<lambda>") ∈ B.tb := by rw [hB]; exact tbm__law_right TX
  have hu : ∀ t ∈ B.tb, t.1 = TX.tp__law_right → t.2 = ("_law_right" ++ ".<locals>." : Str) ++ "<lambda>" := by rw [hB]; exact tbu__law_right TX
  have hgd : (cxOf CX0 P w K mg base ["_law_bag_here", "_law_told", "_law_colours", "_law_k", "_law_ribbon", "_law_odd", "_law_wide", "_law_other", "_law_its", "_law_same_here"] "_law_right" (defScope s__law_right) T.f__law_right.f (.ref TX.cd__law_right) A outer s H E).nox.A.guards = some [] := hgd
  have hu70 : (cxOf CX0 P w K mg base ["_law_bag_here", "_law_told", "_law_colours", "_law_k", "_law_ribbon", "_law_odd", "_law_wide", "_law_other", "_law_its", "_law_same_here"] "_law_right" (defScope s__law_right) T.f__law_right.f (.ref TX.cd__law_right) A outer s H E).nox.A.units + 70 < cLine := Nat.lt_of_le_of_lt (Nat.add_le_add_left (by decide : 70 ≤ 16 * 5 + 200) _) hr.un
  refine psd_cons ?_ ?_
  · refine (psd_set (i := 2) sc__law_right.nd rfl (by first | exact .inl rfl | exact .inr rfl) (pd_make T.mk_Colours (r_Colours___init__ T) (hr.mono (by decide)) (by rfl) T.g_Colours (pad_cons (pd_ix ix_d (pd_var 1) pd_int) (pad_cons (pd_ix ix_d (pd_var 1) pd_int) pad_nil))))
  refine psd_cons ?_ ?_
  · refine psd_if (ptd_not (ptd_val (pd_callDG T.f__law_alike (ok__law_alike T) hgd hr (by decide) (by rfl) (pad_cons (pd_f (pf_lst (pad_cons (pd_propD T.c_Colours T.p_Colours_suns (r_Colours_suns T) hr (by decide) (pd_var 2)) (pad_cons (pd_propD T.c_Colours T.p_Colours_moons (r_Colours_moons T) hr (by decide) (pd_var 2)) pad_nil)))) (pad_cons (pd_var 1) pad_nil))))) ?_ ?_
    · refine psd_one ?_
      refine (psd_ret pd_bl)
    · exact psd_nil
  refine psd_cons ?_ ?_
  · refine psd_for PassesOwn.never rfl (pid_r1 (by rfl) T.n_range (pad_cons pd_int pad_nil)) (pgd_name (i := 3) sc__law_right.nd rfl (by first | exact .inl rfl | exact .inr rfl)) ?_
    refine psd_cons ?_ ?_
    · refine (psd_set (i := 4) sc__law_right.nd rfl (by first | exact .inl rfl | exact .inr rfl) (pd_tup (pad_cons (pd_ix ix_d (pd_f (pf_lst (pad_cons pd_str (pad_cons pd_str pad_nil)))) (pd_callD T.f__law_take (ok__law_take T) hr (by decide) (by rfl) (pad_cons (pd_var 0) (pad_cons pd_int pad_nil)))) (pad_cons (pd_callD T.f__law_pick (ok__law_pick T) hr (by decide) (by rfl) (pad_cons (pd_var 0) (pad_cons (pd_f (pf_lst (pad_cons pd_int (pad_cons pd_int (pad_cons pd_int (pad_cons pd_int (pad_cons pd_int (pad_cons (pd_bin op_add_d (pd_bin op_pow_d pd_int pd_int) (pd_callD T.f__law_take (ok__law_take T) hr (by decide) (by rfl) (pad_cons (pd_var 0) (pad_cons pd_int pad_nil)))) pad_nil)))))))) pad_nil))) pad_nil))))
    refine psd_cons ?_ ?_
    · refine psd_if (ptd_not (ptd_val (pd_callDG T.f__law_alike (ok__law_alike T) hgd hr (by decide) (by rfl) (pad_cons (pd_meth T.c_Colours T.m_Colours_shown (r_Colours_shown T) (hr.mono (by decide)) (pd_var 2) (pad_cons (pd_var 4) pad_nil)) (pad_cons (pd_callD T.f__law_my_colour (ok__law_my_colour T) hr (by decide) (by rfl) (pad_cons (pd_var 1) (pad_cons (pd_ix ix_d (pd_var 4) pd_int) (pad_cons (pd_ix ix_d (pd_var 4) pd_int) pad_nil)))) pad_nil))))) ?_ ?_
      · refine psd_one ?_
        refine (psd_ret pd_bl)
      · exact psd_nil
    refine psd_cons ?_ ?_
    · refine (psd_set (i := 5) sc__law_right.nd rfl (by first | exact .inl rfl | exact .inr rfl) (pd_f (pf_lst (pad_cons (pd_tup (pad_cons pd_str (pad_cons (pd_un un_neg_d pd_int) pad_nil))) (pad_cons (pd_tup (pad_cons pd_str (pad_cons pd_bl pad_nil))) (pad_cons (pd_f (pf_lst (pad_cons pd_str (pad_cons pd_int pad_nil)))) (pad_cons (pd_tup (pad_cons pd_str pad_nil)) (pad_cons (pd_tup (pad_cons pd_str (pad_cons pd_int pad_nil))) (pad_cons pd_non (pad_cons (pd_tup (pad_cons pd_str (pad_cons pd_str pad_nil))) (pad_cons (pd_tup (pad_cons (pd_f (pf_lst pad_nil)) (pad_cons pd_int pad_nil))) pad_nil)))))))))))
    refine psd_cons ?_ ?_
    · refine (psd_set (i := 5) sc__law_right.nd rfl (by first | exact .inl rfl | exact .inr rfl) (pd_bin op_add_d (pd_var 5) (pd_f (pf_lst (pad_cons (pd_tup (pad_cons pd_str (pad_cons pd_int (pad_cons pd_int pad_nil)))) (pad_cons (pd_tup (pad_cons pd_str (pad_cons pd_int (pad_cons pd_non pad_nil)))) (pad_cons pd_int (pad_cons pd_dic0 pad_nil))))))))
    refine psd_cons ?_ ?_
    · refine (psd_set (i := 5) sc__law_right.nd rfl (by first | exact .inl rfl | exact .inr rfl) (pd_ix ix_d (pd_var 5) (pd_callD T.f__law_take (ok__law_take T) hr (by decide) (by rfl) (pad_cons (pd_var 0) (pad_cons pd_int pad_nil)))))
    refine psd_one ?_
    refine psd_if (ptd_not (ptd_val (pd_callDG T.f__law_alike (ok__law_alike T) hgd hr (by decide) (by rfl) (pad_cons ?h3 (pad_cons (pd_tup (pad_cons pd_str (pad_cons (pd_var 5) pad_nil))) pad_nil))))) ?_ ?_
    case h3 => exact (pd_heardTE (k := 3) (i := 1) (Ng := ["_law_act", "e"]) T.f__law_refused rfl (by rfl) sc__law_refused rfl (.inl rfl) (by rfl) TX.g_RibbonError rfl (by rfl) (exm__law_refused T TX) (fun g0 cdv0 => suite__law_refused T TX) TX.tb__law_right rfl hmT hu (hr.mono (by decide)) (LamX.lamS_by rfl) rfl (fun _ _ _ _ _ => rfl) (fun A2 outer2 s2 H2 E2 f2 c2 u Wx hr tk => (pd_methX tk T.c_Colours T.m_Colours_shown (fn_r (okx_Colours_shown (B := (B.at u)) (Wx := Wx) T TX) T.i_Colours_shown.bd) (hr.mono (by decide)) (pd_var 2) (pad_cons (pd_var 5) pad_nil))))
    · refine psd_one ?_
      refine (psd_ret pd_bl)
    · exact psd_nil
  refine psd_cons ?_ ?_
  · refine (psd_set (i := 6) sc__law_right.nd rfl (by first | exact .inl rfl | exact .inr rfl) (pd_f (pf_lst (pad_cons (pd_f (pf_lst (pad_cons (pd_bin op_mul_d (pd_ix ix_d (pd_var 1) pd_int) pd_int) (pad_cons (pd_ix ix_d (pd_var 1) pd_int) pad_nil)))) (pad_cons (pd_f (pf_lst (pad_cons (pd_ix ix_d (pd_var 1) pd_int) (pad_cons (pd_bin op_mul_d (pd_ix ix_d (pd_var 1) pd_int) pd_int) pad_nil)))) (pad_cons (pd_f (pf_lst (pad_cons (pd_bin op_add_d (pd_slice (pd_ix ix_d (pd_var 1) pd_int) (pod_some pd_int) pod_none) (pd_slice (pd_ix ix_d (pd_var 1) pd_int) pod_none (pod_some pd_int))) (pad_cons (pd_ix ix_d (pd_var 1) pd_int) pad_nil)))) (pad_cons (pd_f (pf_rev (pd_var 1))) pad_nil)))))))
  refine psd_cons ?_ ?_
  · refine psd_for PassesOwn.never rfl (pid_seq ?h4) (pgd_name (i := 7) sc__law_right.nd rfl (by first | exact .inl rfl | exact .inr rfl)) ?_
    case h4 => exact (pd_bin op_add_d (pd_var 6) (pd_f (pf_lst (pad_cons (pd_callD T.f__law_my_colours (ok__law_my_colours T) hr (by decide) (by rfl) (pad_cons (pd_var 0) (pad_cons (pd_f (pf_lst (pad_cons pd_int (pad_cons pd_int (pad_cons pd_int pad_nil))))) pad_nil))) pad_nil))))
    refine psd_cons ?_ ?_
    · refine (psd_set (i := 8) sc__law_right.nd rfl (by first | exact .inl rfl | exact .inr rfl) (pd_make T.mk_Colours (r_Colours___init__ T) (hr.mono (by decide)) (by rfl) T.g_Colours (pad_cons (pd_ix ix_d (pd_var 7) pd_int) (pad_cons (pd_ix ix_d (pd_var 7) pd_int) pad_nil))))
    refine psd_cons ?_ ?_
    · refine (psd_set (i := 9) sc__law_right.nd rfl (by first | exact .inl rfl | exact .inr rfl) (pd_callD T.f__law_same (ok__law_same T) hr (by decide) (by rfl) (pad_cons (pd_var 1) (pad_cons (pd_var 7) pad_nil))))
    refine psd_one ?_
    refine psd_if (ptd_not (ptd_val (pd_callDG T.f__law_alike (ok__law_alike T) hgd hr (by decide) (by rfl) (pad_cons (pd_f (pf_lst (pad_cons (pd_cmp (op_cmp_ownA (op := .Eq) (fun _ _ => rfl) T.nf_Colours T.out_Colours T.oth_Colours T.m_Colours___eq__.at_ T.m_Colours___eq__.fn (r_Colours___eq__ T) (hr.mono (by decide))) (pd_var 2) (pd_var 8) (by rfl)) (pad_cons (pd_cmp (op_cmp_ownA (op := .Eq) (fun _ _ => rfl) T.nf_Colours T.out_Colours T.oth_Colours T.m_Colours___eq__.at_ T.m_Colours___eq__.fn (r_Colours___eq__ T) (hr.mono (by decide))) (pd_var 8) (pd_var 2) (by rfl)) (pad_cons (pd_cmp (op_ne_ownA T.nf_Colours T.out_Colours T.oth_Colours T.ne_Colours T.m_Colours___eq__.at_ T.m_Colours___eq__.fn T.mo_Colours (r_Colours___eq__ T) (hr.mono (by decide))) (pd_var 2) (pd_var 8) (by rfl)) pad_nil))))) (pad_cons (pd_f (pf_lst (pad_cons (pd_var 9) (pad_cons (pd_var 9) (pad_cons (pd_not (pd_var 9)) pad_nil))))) pad_nil))))) ?_ ?_
    · refine psd_one ?_
      refine (psd_ret pd_bl)
    · exact psd_nil
  refine psd_one ?_
  refine (psd_ret (pd_and (pd_cmp (op_ne_ownA T.nf_Colours T.out_Colours T.oth_Colours T.ne_Colours T.m_Colours___eq__.at_ T.m_Colours___eq__.fn T.mo_Colours (r_Colours___eq__ T) (hr.mono (by decide))) (pd_var 2) (pd_var 1) (by rfl)) (pd_and (pd_not (pd_cmp (op_cmp_ownA (op := .Eq) (fun _ _ => rfl) T.nf_Colours T.out_Colours T.oth_Colours T.m_Colours___eq__.at_ T.m_Colours___eq__.fn (r_Colours___eq__ T) (hr.mono (by decide))) (pd_var 2) pd_non (by rfl))) (pd_1 (pd_cmp (op_ne_ownA T.nf_Colours T.out_Colours T.oth_Colours T.ne_Colours T.m_Colours___eq__.at_ T.m_Colours___eq__.fn T.mo_Colours (r_Colours___eq__ T) (hr.mono (by decide))) (pd_var 2) (pd_callTy call_tuple_d (by rfl) T.n_tuple (by decide +kernel) (pad_cons (pd_var 1) pad_nil)) (by rfl))))))
def _law_is_colours_at_3 : DTS := (dRet (dOp oEq (dF (fLc (iSeq (dVar 0)) (gN 1) (tNt (tBl (dChain oLeS oLeS (dC (.str (Str.ofString "a"))) (dVar 1) (dC (.str (Str.ofString "z")))))) (dVar 1) [1])) (dF (fLst dNil))))
def t__law_is_colours : DTS := (dSeq (dIfS (tOrr (tNt (tBl (dIsi "str" (dVar 0)))) (tBl (dOp oEq (dVar 0) (dC (.str (Str.ofString "")))))) (dRet (dC (.bl false))) dNext)
  _law_is_colours_at_3)
def S__law_is_colours : FD := fun ds Q => ds.length = 1 ∧ t__law_is_colours { nx := fun _ => Q .non, rt := Q } (startD 2 ds)
theorem len__law_is_colours : ∀ ds Q, S__law_is_colours ds Q → ds.length = 1 := fun _ _ h => h.1
theorem vc__law_is_colours : ∀ ds Q, S__law_is_colours ds Q → t__law_is_colours { nx := fun _ => Q .non, rt := Q } (startD 2 ds) := fun _ _ h => h.2
theorem ok__law_is_colours {P : Program} {w : World} {K : PySem.W.Frag} {mg : Str → Option Value} {base : Heap} {B : Bx} (T : Top K mg B.ct) : FnOk P w K mg base CX0 1 T.f__law_is_colours.f T.f__law_is_colours.fd ["_law_thing"] (spD K B S__law_is_colours) := by
  refine fn_d (k := 0) (t := t__law_is_colours) T.f__law_is_colours.fn sc__law_is_colours len__law_is_colours (fun cdv A outer s H E hr => ?_) vc__law_is_colours
  refine psd_cons ?_ ?_
  · refine psd_if (pwd_or (ptd_not (ptd_val (pd_isi known_str (by rfl) T.n_isinstance (by rfl) T.n_str (by decide +kernel) (pd_var 0)))) (pwd_or1 (ptd_cmp (op_eq_d hr.units) (pd_var 0) pd_str (by rfl)))).pt ?_ ?_
    · refine psd_one ?_
      refine (psd_ret pd_bl)
    · exact psd_nil
  refine psd_one ?_
  refine (psd_ret (pd_cmp (op_eq_d hr.units) (pd_f (pf_lc rfl sc__law_is_colours.nd (pid_seq (pd_var 0)) (blkOk_by (own := [("_law_letter", 1)]) (by rfl)) (by decide) (fun _ _ _ _ _ => (pgd_name (i := 1) sc__law_is_colours.nd rfl (by first | exact .inl rfl | exact .inr rfl))) (fun _ _ _ _ _ => ?h2) (fun _ _ _ _ _ => (pd_var 1)))) (pd_f (pf_lst pad_nil)) (by rfl)))
  case h2 => exact (ptsd_one (ptd_not (ptd_chain op_leS_d op_leS_d pd_str (pd_var 1) pd_str (by with_unfolding_all rfl))))
def _law_wrong_right_at_5 : DTS := (dRet (dCall S__law_alike (dCons (dHeardE "told" okc__law_refused hd__law_refused fun Wx => (dMake 4 (Sx_Colours___init__ Wx) (dCons (dOp oIx (dVar 3) (dC (.int 0))) (dCons (dOp oIx (dVar 3) (dC (.int 1))) dNil)))) (dCons (dVar 5) dNil))))
def _law_wrong_right_at_4 : DTS := (dSeq (dSet 5 (dIfE (tBl (dOp oEq (dVar 4) (dF (fLst (dCons (dC (.bl true)) (dCons (dC (.bl true)) dNil)))))) (dTup (dCons (dC (.str (Str.ofString "told"))) (dCons (dC .non) dNil))) (dTup (dCons (dC (.str (Str.ofString "wrong"))) (dCons (dMt "list" mIndexP (dVar 4) (dCons (dC (.bl false)) dNil)) dNil)))))
  _law_wrong_right_at_5)
def _law_wrong_right_at_3 : DTS := (dSeq (dSet 4 (dF (fLc (iSeq (dVar 3)) (gN 7) dYes (dCall S__law_is_colours (dCons (dVar 7) dNil)) [7])))
  _law_wrong_right_at_4)
def _law_wrong_right_at_2 : DTS := (dSeq (dSet 3 (dF (fLc (iR1 (dCons (dC (.int 2)) dNil)) (gN 6) dYes (dCall S__law_pick (dCons (dVar 0) (dCons (dVar 2) dNil))) [6])))
  _law_wrong_right_at_3)
def t__law_wrong_right : DTS := (dSeq (dSet 2 (dF (fLst (dCons (dC (.str (Str.ofString ""))) (dCons (dC .non) (dCons (dC (.str (Str.ofString "A"))) (dCons (dC (.str (Str.ofString "a1"))) (dCons (dC (.str (Str.ofString "a b"))) (dCons (dF (fLst (dCons (dC (.str (Str.ofString "a"))) dNil))) (dCons (dTup (dCons (dC (.str (Str.ofString "a"))) dNil)) (dCons (dC (.int 5)) (dCons (dC (.bl true)) (dCons dDic0 (dCons (dC (.str (Str.ofString "ab-"))) (dCons (dC (.str (Str.ofString "a{"))) (dCons (dC (.str (Str.ofString "`a"))) (dCons (dC (.str (Str.ofString "a\n"))) (dCons (dC (.str (Str.ofString "a "))) (dCons (dOp oIx (dVar 1) (dC (.int 0))) dNil)))))))))))))))))))
  _law_wrong_right_at_2)
def S__law_wrong_right : FD := fun ds Q => ds.length = 2 ∧ t__law_wrong_right { nx := fun _ => Q .non, rt := Q } (startD 8 ds)
theorem len__law_wrong_right : ∀ ds Q, S__law_wrong_right ds Q → ds.length = 2 := fun _ _ h => h.1
theorem vc__law_wrong_right : ∀ ds Q, S__law_wrong_right ds Q → t__law_wrong_right { nx := fun _ => Q .non, rt := Q } (startD 8 ds) := fun _ _ h => h.2
theorem ok__law_wrong_right {P : Program} {w : World} {K : PySem.W.Frag} {mg : Str → Option Value} {base : Heap} {B : Bx} (T : Top K mg B.ct) (TX : TopX P w K mg base B.ct T) (hB : B.tb = tbs TX) : FnG P w K mg base CX0 7 T.f__law_wrong_right.f T.f__law_wrong_right.fd ["_law_bag_here", "_law_told"] (spD K B S__law_wrong_right) := by
  refine fng_dC (k := 6) (t := t__law_wrong_right) T.f__law_wrong_right.fn sc__law_wrong_right len__law_wrong_right (fun c A outer s H E hec hgd hr => ?_) vc__law_wrong_right
  obtain rfl : c = TX.cd__law_wrong_right := by injection hec.symm.trans TX.cc__law_wrong_right
  have hmT : (TX.tp__law_wrong_right, ("_law_wrong_right" ++ ".<locals>." : Str) ++ "<lambda>") ∈ B.tb := by rw [hB]; exact tbm__law_wrong_right TX
  have hu : ∀ t ∈ B.tb, t.1 = TX.tp__law_wrong_right → t.2 = ("_law_wrong_right" ++ ".<locals>." : Str) ++ "<lambda>" := by rw [hB]; exact tbu__law_wrong_right TX
  have hgd : (cxOf CX0 P w K mg base ["_law_bag_here", "_law_told", "_law_odd", "_law_some", "_law_good", "_law_due", "_law_k", "_law_thing"] "_law_wrong_right" (defScope s__law_wrong_right) T.f__law_wrong_right.f (.ref TX.cd__law_wrong_right) A outer s H E).nox.A.guards = some [] := hgd
  have hu70 : (cxOf CX0 P w K mg base ["_law_bag_here", "_law_told", "_law_odd", "_law_some", "_law_good", "_law_due", "_law_k", "_law_thing"] "_law_wrong_right" (defScope s__law_wrong_right) T.f__law_wrong_right.f (.ref TX.cd__law_wrong_right) A outer s H E).nox.A.units + 70 < cLine := Nat.lt_of_le_of_lt (Nat.add_le_add_left (by decide : 70 ≤ 16 * 6 + 200) _) hr.un
  refine psd_cons ?_ ?_
  · refine (psd_set (i := 2) sc__law_wrong_right.nd rfl (by first | exact .inl rfl | exact .inr rfl) (pd_f (pf_lst (pad_cons pd_str (pad_cons pd_non (pad_cons pd_str (pad_cons pd_str (pad_cons pd_str (pad_cons (pd_f (pf_lst (pad_cons pd_str pad_nil))) (pad_cons (pd_tup (pad_cons pd_str pad_nil)) (pad_cons pd_int (pad_cons pd_bl (pad_cons pd_dic0 (pad_cons pd_str (pad_cons pd_str (pad_cons pd_str (pad_cons pd_str (pad_cons pd_str (pad_cons (pd_ix ix_d (pd_var 1) pd_int) pad_nil)))))))))))))))))))
  refine psd_cons ?_ ?_
  · refine (psd_set (i := 3) sc__law_wrong_right.nd rfl (by first | exact .inl rfl | exact .inr rfl) (pd_f (pf_lc rfl sc__law_wrong_right.nd (pid_r1 (by rfl) T.n_range (pad_cons pd_int pad_nil)) (blkOk_by (own := [("_law_k", 6)]) (by rfl)) (by decide) (fun _ _ _ _ _ => (pgd_name (i := 6) sc__law_wrong_right.nd rfl (by first | exact .inl rfl | exact .inr rfl))) (fun _ _ _ _ _ => ptsd_nil) (fun _ _ _ _ _ => ?h4))))
    case h4 => exact (pd_callD T.f__law_pick (ok__law_pick T) hr (by decide) (by rfl) (pad_cons (pd_var 0) (pad_cons (pd_var 2) pad_nil)))
  refine psd_cons ?_ ?_
  · refine (psd_setLc (i := 4) rfl sc__law_wrong_right.nd rfl rfl (sw_true rfl rfl rfl (by decide +kernel)) (pid_seq (pd_var 3)) (blkOk_by (own := [("_law_thing", 7)]) (by rfl)) (by decide) (fun _ _ _ _ _ => (pgd_name (i := 7) sc__law_wrong_right.nd rfl (by first | exact .inl rfl | exact .inr rfl))) (fun _ _ _ _ _ => ptsd_nil) (fun _ _ _ _ _ => ?h5))
    case h5 => exact (pd_callD T.f__law_is_colours (ok__law_is_colours T) hr (by decide) (by rfl) (pad_cons (pd_var 7) pad_nil))
  refine psd_cons ?_ ?_
  · refine (psd_set (i := 5) sc__law_wrong_right.nd rfl (by first | exact .inl rfl | exact .inr rfl) (pd_ifE (ptd_cmp (op_eq_d hr.units) (pd_var 4) (pd_f (pf_lst (pad_cons pd_bl (pad_cons pd_bl pad_nil)))) (by rfl)) (pd_tup (pad_cons pd_str (pad_cons pd_non pad_nil))) (pd_tup (pad_cons pd_str (pad_cons (pd_bm PySem.F.plainAttrs_list PySem.F.slot_list_index PySem.F.type_list_index (mt_indexP (room_u65 hr)) (pd_var 4) (pad_cons pd_bl pad_nil)) pad_nil)))))
  refine psd_one ?_
  refine (psd_ret (pd_callDG T.f__law_alike (ok__law_alike T) hgd hr (by decide) (by rfl) (pad_cons ?h6 (pad_cons (pd_var 5) pad_nil))))
  case h6 => exact (pd_heardTE (k := 4) (i := 1) (Ng := ["_law_act", "e"]) T.f__law_refused rfl (by rfl) sc__law_refused rfl (.inl rfl) (by rfl) TX.g_RibbonError rfl (by rfl) (exm__law_refused T TX) (fun g0 cdv0 => suite__law_refused T TX) TX.tb__law_wrong_right rfl hmT hu (hr.mono (by decide)) (LamX.lamS_by rfl) rfl (fun _ _ _ _ _ => rfl) (fun A2 outer2 s2 H2 E2 f2 c2 u Wx hr tk => (pd_makeX tk T.mk_Colours (fn_r (okx_Colours___init__ (B := (B.at u)) (Wx := Wx) T TX) T.i_Colours___init__.bd) (hr.mono (by decide)) (by rfl) T.g_Colours (pad_cons (pd_ix ix_d (pd_var 3) pd_int) (pad_cons (pd_ix ix_d (pd_var 3) pd_int) pad_nil)))))
def law_at_4 : DTS := (dIfS (tOrr (tNt (tBl (dCall S__law_right (dCons (dVar 1) (dCons (dVar 3) dNil))))) (tNt (tBl (dCall S__law_wrong_right (dCons (dVar 1) (dCons (dVar 3) dNil)))))) (dRet (dC (.bl false))) dNext)
def b_law_1 : DTS := (dSeq (dSet 3 (dCall S__law_my_colours (dCons (dVar 1) (dCons (dF (fLst (dCons (dC (.int 1)) (dCons (dC (.int 1)) (dCons (dC (.int 2)) (dCons (dC (.int 3)) (dCons (dC (.int 4)) (dCons (dC (.int 5)) dNil)))))))) dNil))))
  law_at_4)
def law_at_6 : DTS := (dRet (dC (.bl true)))
def t_law : DTS := (dSeq (dFor (iR1 (dCons (dC (.int 4)) dNil)) (gN 2) b_law_1)
  law_at_6)
theorem forD_c {g : DG} {tb : DTS} {W : DEnds} {d : D} {ds : List D} {δ : DS} : forD g tb W (d :: ds) δ = g d δ fun δ' => tb { W with nx := forD g tb W ds, ct := forD g tb W ds, bk := W.nx } δ' := propext Iff.rfl
theorem forD_n {g : DG} {tb : DTS} {W : DEnds} {δ : DS} : forD g tb W [] δ = W.nx δ := propext Iff.rfl
theorem zS_ownO {K : V → OD → Prop} {v : V} {x : OD} : ownO (some (some (.ow v x))) K = K v x := propext Iff.rfl
theorem zS_ii {k : Int} : isi "int" (.int k) = true := by rfl
theorem zS_bi {k : Int} : isi "bool" (.int k) = false := by rfl
theorem zS_tt {xs : List D} : isi "tuple" (.tup xs) = true := by rfl
theorem zS_ll {xs : List D} : isi "list" (.lst xs) = true := by rfl
theorem zS_ss {x : Str} : isi "str" (.str x) = true := by rfl
def isCD (C : Nat) (d : D) (Q : D → Prop) : Prop := match d with
  | .obj c _ => match decide (c = C) with
    | true => Q (.bl true)
    | false => False
  | _ => False
theorem zS_isC {C : Nat} {r : DE} {δ : DS} {Q : D → Prop} : dIsC C r δ Q = r δ fun d => isCD C d Q := propext Iff.rfl
theorem zS_isCD {C : Nat} {fs : List D} {Q : D → Prop} : isCD C (.obj C fs) Q = Q (.bl true) := by
  unfold isCD
  simp only [decide_true]
theorem bls_t : ∀ {xs : List D}, (∀ d ∈ xs, d = .bl true) → blsOf xs = some (List.replicate xs.length true)
  | [], _ => rfl
  | x :: xs, h => by
    rw [h x List.mem_cons_self, blsOf, bls_t fun d hd => h d (List.mem_cons_of_mem _ hd)]
    rfl
theorem all_t {xs : List D} {Q : D → Prop} (h : ∀ d ∈ xs, d = .bl true) (hq : Q (.bl true)) : cAll [.lst xs] Q := by
  show (match blsOf xs with | some bs => Q (.bl (bs.all id)) | none => False)
  rw [bls_t h]
  have : (List.replicate xs.length true).all id = true := List.all_eq_true.mpr fun x hx => by rw [(List.mem_replicate.mp hx).2]; rfl
  show Q (.bl ((List.replicate xs.length true).all id))
  rw [this]
  exact hq
theorem eqb_cons (x y : D) (xs ys : List D) : eqb (.lst (x :: xs)) (.lst (y :: ys)) = (eqb x y && eqb (.lst xs) (.lst ys)) := by
  simp only [eqb, D.py, pyL, PyData.eqv, PyData.eqvAll]
theorem eqb_nil : eqb (.lst []) (.lst []) = true := by rfl
theorem eqb_nc (x : D) (xs : List D) : eqb (.lst (x :: xs)) (.lst []) = false := by
  simp only [eqb, D.py, pyL, PyData.eqv, PyData.eqvAll]
theorem eqb_cn (x : D) (xs : List D) : eqb (.lst []) (.lst (x :: xs)) = false := by
  simp only [eqb, D.py, pyL, PyData.eqv, PyData.eqvAll]
theorem eqb_map {α : Type} [DecidableEq α] {g : α → D} (hg : ∀ a b, eqb (g a) (g b) = decide (a = b)) : ∀ xs ys : List α, eqb (.lst (xs.map g)) (.lst (ys.map g)) = decide (xs = ys)
  | [], [] => by rw [List.map_nil, eqb_nil]; exact (decide_eq_true rfl).symm
  | [], y :: ys => by rw [List.map_nil, List.map_cons, eqb_cn]; exact (decide_eq_false (by simp)).symm
  | x :: xs, [] => by rw [List.map_nil, List.map_cons, eqb_nc]; exact (decide_eq_false (by simp)).symm
  | x :: xs, y :: ys => by
    rw [List.map_cons, List.map_cons, eqb_cons, hg, eqb_map hg xs ys, Bool.eq_iff_iff]
    simp
theorem cut_mid {α : Type} {xs : List α} {l p : Nat} (h : l + p ≤ xs.length) : cut xs (some (l : Int)) (some ((l : Int) + (p : Int))) = (xs.drop l).take p := by
  rw [show (l : Int) + (p : Int) = ((l + p : Nat) : Int) by omega]
  unfold cut
  rw [HT.sIx_nat, HT.sIx_nat, Nat.min_eq_left h, Nat.min_eq_left (show l ≤ xs.length by omega)]
  congr 1
  omega
theorem zS_ms : decide (Str.ofString "moon" = Str.ofString "sun") = false := by decide +kernel
theorem zS_c1 : decide (((1 : Nat) : Int) = 2) = false := rfl
theorem zS_c2 : decide (((2 : Nat) : Int) = 2) = true := rfl
theorem bls_map {α : Type} (f : α → Bool) : ∀ xs : List α, blsOf (xs.map fun x => D.bl (f x)) = some (xs.map f)
  | [] => rfl
  | x :: xs => by rw [List.map_cons, blsOf, bls_map f xs]; rfl
def kindOk : D → Bool
  | .non => true
  | .bl _ => true
  | .int _ => true
  | .str x => decide (x.length ≤ 1000)
  | .lst _ => true
  | .tup _ => true
  | .dic _ => true
  | _ => false
def okX (d : D) : Bool := (match d with | .tup xs => xs.all kindOk | d => kindOk d) && (rich d && (decide (depX d ≤ 67) && decide (wtX d ≤ 60000)))
structure Scal (d : D) : Prop where
  k : kindOk d = true
  f : rich d = true
  d0 : depX d = 64
  w : wtX d ≤ 2100
theorem scal_str {x : Str} (h : x.length ≤ 40) (h2 : PyData.strOk x = true) : Scal (.str x) := ⟨decide_eq_true (by omega), by rw [rich]; exact h2, rfl, by show 10 * x.length + 2 ≤ 2100; omega⟩
theorem okX_k {d : D} (h : okX d = true) : kindOk d = true := by
  unfold okX at h
  rw [Bool.and_eq_true] at h
  cases d with
  | tup xs => rfl
  | _ => exact h.1
theorem okX_p {d : D} (h : okX d = true) : rich d = true ∧ depX d ≤ 67 ∧ wtX d ≤ 60000 := by
  unfold okX at h
  rw [Bool.and_eq_true, Bool.and_eq_true, Bool.and_eq_true] at h
  exact ⟨h.2.1, of_decide_eq_true h.2.2.1, of_decide_eq_true h.2.2.2⟩
theorem okX_t {xs : List D} (h : okX (.tup xs) = true) : ∀ d ∈ xs, kindOk d = true := by
  unfold okX at h
  rw [Bool.and_eq_true] at h
  exact List.all_eq_true.mp h.1
theorem zS_iis {x : Str} : isi "int" (.str x) = false := by rfl
theorem zS_iii {x : Int} : isi "int" (.int x) = true := by rfl
theorem zS_ibi {x : Int} : isi "bool" (.int x) = false := by rfl
theorem zS_iib {x : Bool} : isi "int" (.bl x) = true := by rfl
theorem zS_ibb {x : Bool} : isi "bool" (.bl x) = true := by rfl
theorem zS_iin : isi "int" .non = false := by rfl
theorem zS_iil {x : List D} : isi "int" (.lst x) = false := by rfl
theorem zS_iit {x : List D} : isi "int" (.tup x) = false := by rfl
theorem zS_iid {x : List (D × D)} : isi "int" (.dic x) = false := by rfl
theorem zS_isI {x : Int} : isi "str" (.int x) = false := by rfl
theorem zS_isb {x : Bool} : isi "str" (.bl x) = false := by rfl
theorem zS_isn : isi "str" .non = false := by rfl
theorem zS_isl {x : List D} : isi "str" (.lst x) = false := by rfl
theorem zS_ist {x : List D} : isi "str" (.tup x) = false := by rfl
theorem zS_isd {x : List (D × D)} : isi "str" (.dic x) = false := by rfl
theorem zS_tus {x : Str} : isi "tuple" (.str x) = false := by rfl
theorem zS_tui {x : Int} : isi "tuple" (.int x) = false := by rfl
theorem zS_tub {x : Bool} : isi "tuple" (.bl x) = false := by rfl
theorem zS_tun : isi "tuple" .non = false := by rfl
theorem zS_tul {x : List D} : isi "tuple" (.lst x) = false := by rfl
theorem zS_tud {x : List (D × D)} : isi "tuple" (.dic x) = false := by rfl
def fC : D → Bool
  | .int i => decide (0 ≤ i)
  | _ => false
def fI : D → Bool
  | .int _ => true
  | _ => false
theorem isint_ok {d : D} {Q : D → Prop} (h : kindOk d = true) (hq : Q (.bl (fI d))) : S_is_integer [d] Q := by
  refine ⟨rfl, ?_⟩
  show t_is_integer _ [some (.sh d)]
  simp only [t_is_integer, ↓zHd0, zHp0, ↓zGd0, ↓zGd1, ↓zGd2, ↓zGd3, ↓zGd4, zGp0, startD, ↓List.map_cons, ↓List.map_nil, ↓List.length_cons, ↓List.length_nil, Nat.reduceAdd, Nat.reduceSub, Nat.sub_self, List.replicate, ↓List.cons_append, ↓List.nil_append, List.append_nil, ↓List.getElem?_cons_zero, ↓List.getElem?_cons_succ, ↓List.set_cons_zero, ↓List.set_cons_succ, wipeD, Bool.not_true, Bool.not_false, decide_true, decide_false, beq_self_eq_true, true_and, and_true, Nat.reduceLeDiff, toDs, toDk, toDs_sh, ↓zS_ownO, ↓zS_ii, ↓zS_bi, ↓zS_tt, ↓zS_ll, ↓zS_ss, ↓zS_isC, ↓zS_isCD, ↓zS_ms, ↓zS_c1, ↓zS_c2, ↓zS_iis, ↓zS_iii, ↓zS_ibi, ↓zS_iib, ↓zS_ibb, ↓zS_iin, ↓zS_iil, ↓zS_iit, ↓zS_iid, ↓zS_isI, ↓zS_isb, ↓zS_isn, ↓zS_isl, ↓zS_ist, ↓zS_isd, ↓zS_tus, ↓zS_tui, ↓zS_tub, ↓zS_tun, ↓zS_tul, ↓zS_tud]
  cases d with
  | obj => cases h
  | bag => cases h
  | ktup => cases h
  | _ => exact hq
theorem cnt_ok {d : D} {Q : D → Prop} (h : kindOk d = true) (hq : Q (.bl (fC d))) : S_is_count [d] Q := by
  refine ⟨rfl, ?_⟩
  show t_is_count _ [some (.sh d)]
  simp only [t_is_count, ↓zHd0, zHp0, ↓zGd0, ↓zGd1, ↓zGd2, ↓zGd3, ↓zGd4, zGp0, startD, ↓List.map_cons, ↓List.map_nil, ↓List.length_cons, ↓List.length_nil, Nat.reduceAdd, Nat.reduceSub, Nat.sub_self, List.replicate, ↓List.cons_append, ↓List.nil_append, List.append_nil, ↓List.getElem?_cons_zero, ↓List.getElem?_cons_succ, ↓List.set_cons_zero, ↓List.set_cons_succ, wipeD, Bool.not_true, Bool.not_false, decide_true, decide_false, beq_self_eq_true, true_and, and_true, Nat.reduceLeDiff, toDs, toDk, toDs_sh, ↓zS_ownO, ↓zS_ii, ↓zS_bi, ↓zS_tt, ↓zS_ll, ↓zS_ss, ↓zS_isC, ↓zS_isCD, ↓zS_ms, ↓zS_c1, ↓zS_c2, ↓zS_iis, ↓zS_iii, ↓zS_ibi, ↓zS_iib, ↓zS_ibb, ↓zS_iin, ↓zS_iil, ↓zS_iit, ↓zS_iid, ↓zS_isI, ↓zS_isb, ↓zS_isn, ↓zS_isl, ↓zS_ist, ↓zS_isd, ↓zS_tus, ↓zS_tui, ↓zS_tub, ↓zS_tun, ↓zS_tul, ↓zS_tud]
  refine isint_ok h ?_
  cases d with
  | int i =>
    simp only [fI, ↓zHd0, zHp0, ↓zGd0, ↓zGd1, ↓zGd2, ↓zGd3, ↓zGd4, zGp0, startD, ↓List.map_cons, ↓List.map_nil, ↓List.length_cons, ↓List.length_nil, Nat.reduceAdd, Nat.reduceSub, Nat.sub_self, List.replicate, ↓List.cons_append, ↓List.nil_append, List.append_nil, ↓List.getElem?_cons_zero, ↓List.getElem?_cons_succ, ↓List.set_cons_zero, ↓List.set_cons_succ, wipeD, Bool.not_true, Bool.not_false, decide_true, decide_false, beq_self_eq_true, true_and, and_true, Nat.reduceLeDiff, toDs, toDk, toDs_sh, ↓zS_ownO, ↓zS_ii, ↓zS_bi, ↓zS_tt, ↓zS_ll, ↓zS_ss, ↓zS_isC, ↓zS_isCD, ↓zS_ms, ↓zS_c1, ↓zS_c2, ↓zS_iis, ↓zS_iii, ↓zS_ibi, ↓zS_iib, ↓zS_ibb, ↓zS_iin, ↓zS_iil, ↓zS_iit, ↓zS_iid, ↓zS_isI, ↓zS_isb, ↓zS_isn, ↓zS_isl, ↓zS_ist, ↓zS_isd, ↓zS_tus, ↓zS_tui, ↓zS_tub, ↓zS_tun, ↓zS_tul, ↓zS_tud]
    exact hq
  | obj => cases h
  | bag => cases h
  | ktup => cases h
  | _ => exact hq
def fSd : D → Bool
  | .str x => decide (x = Str.ofString "sun" ∨ x = Str.ofString "moon")
  | _ => false
theorem inSd (x : Str) : inD (.str x) [.str (Str.ofString "moon"), .str (Str.ofString "sun")] = decide (x = Str.ofString "sun" ∨ x = Str.ofString "moon") := by
  rw [Bool.eq_iff_iff, decide_eq_true_iff]
  unfold inD
  have e : ∀ a : Str, eqF (.str a) (.str x) = true ↔ x = a := fun a => by
    show decide (a = x) = true ↔ _
    rw [decide_eq_true_iff]
    exact eq_comm
  rw [List.any_cons, List.any_cons, List.any_nil, Bool.or_false, Bool.or_eq_true, e, e]
  exact or_comm
theorem side_any {d : D} {Q : D → Prop} (h : kindOk d = true) (hq : Q (.bl (fSd d))) : S_is_side [d] Q := by
  refine ⟨rfl, ?_⟩
  show t_is_side _ [some (.sh d)]
  simp only [t_is_side, ↓zHd0, zHp0, ↓zGd0, ↓zGd1, ↓zGd2, ↓zGd3, ↓zGd4, zGp0, startD, ↓List.map_cons, ↓List.map_nil, ↓List.length_cons, ↓List.length_nil, Nat.reduceAdd, Nat.reduceSub, Nat.sub_self, List.replicate, ↓List.cons_append, ↓List.nil_append, List.append_nil, ↓List.getElem?_cons_zero, ↓List.getElem?_cons_succ, ↓List.set_cons_zero, ↓List.set_cons_succ, wipeD, Bool.not_true, Bool.not_false, decide_true, decide_false, beq_self_eq_true, true_and, and_true, Nat.reduceLeDiff, toDs, toDk, toDs_sh, ↓zS_ownO, ↓zS_ii, ↓zS_bi, ↓zS_tt, ↓zS_ll, ↓zS_ss, ↓zS_isC, ↓zS_isCD, ↓zS_ms, ↓zS_c1, ↓zS_c2, ↓zS_iis, ↓zS_iii, ↓zS_ibi, ↓zS_iib, ↓zS_ibb, ↓zS_iin, ↓zS_iil, ↓zS_iit, ↓zS_iid, ↓zS_isI, ↓zS_isb, ↓zS_isn, ↓zS_isl, ↓zS_ist, ↓zS_isd, ↓zS_tus, ↓zS_tui, ↓zS_tub, ↓zS_tun, ↓zS_tul, ↓zS_tud]
  cases d with
  | obj => cases h
  | bag => cases h
  | ktup => cases h
  | str x =>
    simp only [↓zHd0, zHp0, ↓zGd0, ↓zGd1, ↓zGd2, ↓zGd3, ↓zGd4, zGp0, startD, ↓List.map_cons, ↓List.map_nil, ↓List.length_cons, ↓List.length_nil, Nat.reduceAdd, Nat.reduceSub, Nat.sub_self, List.replicate, ↓List.cons_append, ↓List.nil_append, List.append_nil, ↓List.getElem?_cons_zero, ↓List.getElem?_cons_succ, ↓List.set_cons_zero, ↓List.set_cons_succ, wipeD, Bool.not_true, Bool.not_false, decide_true, decide_false, beq_self_eq_true, true_and, and_true, Nat.reduceLeDiff, toDs, toDk, toDs_sh, ↓zS_ownO, ↓zS_ii, ↓zS_bi, ↓zS_tt, ↓zS_ll, ↓zS_ss, ↓zS_isC, ↓zS_isCD, ↓zS_ms, ↓zS_c1, ↓zS_c2, ↓zS_iis, ↓zS_iii, ↓zS_ibi, ↓zS_iib, ↓zS_ibb, ↓zS_iin, ↓zS_iil, ↓zS_iit, ↓zS_iid, ↓zS_isI, ↓zS_isb, ↓zS_isn, ↓zS_isl, ↓zS_ist, ↓zS_isd, ↓zS_tus, ↓zS_tui, ↓zS_tub, ↓zS_tun, ↓zS_tul, ↓zS_tud, c_SIDES, cTup]
    refine ⟨⟨rfl, rfl⟩, ?_⟩
    rw [inSd]
    exact hq
  | _ => simp only [↓zHd0, zHp0, ↓zGd0, ↓zGd1, ↓zGd2, ↓zGd3, ↓zGd4, zGp0, startD, ↓List.map_cons, ↓List.map_nil, ↓List.length_cons, ↓List.length_nil, Nat.reduceAdd, Nat.reduceSub, Nat.sub_self, List.replicate, ↓List.cons_append, ↓List.nil_append, List.append_nil, ↓List.getElem?_cons_zero, ↓List.getElem?_cons_succ, ↓List.set_cons_zero, ↓List.set_cons_succ, wipeD, Bool.not_true, Bool.not_false, decide_true, decide_false, beq_self_eq_true, true_and, and_true, Nat.reduceLeDiff, toDs, toDk, toDs_sh, ↓zS_ownO, ↓zS_ii, ↓zS_bi, ↓zS_tt, ↓zS_ll, ↓zS_ss, ↓zS_isC, ↓zS_isCD, ↓zS_ms, ↓zS_c1, ↓zS_c2, ↓zS_iis, ↓zS_iii, ↓zS_ibi, ↓zS_iib, ↓zS_ibb, ↓zS_iin, ↓zS_iil, ↓zS_iit, ↓zS_iid, ↓zS_isI, ↓zS_isb, ↓zS_isn, ↓zS_isl, ↓zS_ist, ↓zS_isd, ↓zS_tus, ↓zS_tui, ↓zS_tub, ↓zS_tun, ↓zS_tul, ↓zS_tud]; exact hq
theorem len3 {a b c : D} {r : List D} : decide (((a :: b :: c :: r).length : Int) = 2) = false := decide_eq_false (by simp only [List.length_cons]; omega)
def isLet (c : Nat) : Bool := decide (97 ≤ c) && decide (c ≤ 122)
structure OkC (x : Str) : Prop where
  l0 : 0 < x.length
  l1 : x.length ≤ 100
  le : ∀ c ∈ x.cps.toList, isLet c = true
theorem let_in {c : Nat} (h : isLet c = true) : c ∈ x_LETTERS.cps.toList := by
  have : ∀ c, c < 123 → isLet c = true → c ∈ x_LETTERS.cps.toList := by decide +kernel
  refine this c ?_ h
  have := (Bool.and_eq_true_iff.mp h).2
  have := of_decide_eq_true this
  omega
abbrev co (s t : Str) : D := .obj 4 [.str t, .str s]
theorem cols_ok {x : Str} {Q : D → Prop} (h : OkC x) (hq : Q (.bl true)) : S_are_colours [.str x] Q := by
  refine ⟨rfl, ?_⟩
  show t_are_colours _ [some (.sh (.str x)), none]
  simp only [t_are_colours, ↓zHd0, zHp0, ↓zGd0, ↓zGd1, ↓zGd2, ↓zGd3, ↓zGd4, zGp0, startD, ↓List.map_cons, ↓List.map_nil, ↓List.length_cons, ↓List.length_nil, Nat.reduceAdd, Nat.reduceSub, Nat.sub_self, List.replicate, ↓List.cons_append, ↓List.nil_append, List.append_nil, ↓List.getElem?_cons_zero, ↓List.getElem?_cons_succ, ↓List.set_cons_zero, ↓List.set_cons_succ, wipeD, Bool.not_true, Bool.not_false, decide_true, decide_false, beq_self_eq_true, true_and, and_true, Nat.reduceLeDiff, toDs, toDk, toDs_sh, ↓zS_ownO, ↓zS_ii, ↓zS_bi, ↓zS_tt, ↓zS_ll, ↓zS_ss, ↓zS_isC, ↓zS_isCD, ↓zS_ms, ↓zS_c1, ↓zS_c2, ↓zS_iis, ↓zS_iii, ↓zS_ibi, ↓zS_iib, ↓zS_ibb, ↓zS_iin, ↓zS_iil, ↓zS_iit, ↓zS_iid, ↓zS_isI, ↓zS_isb, ↓zS_isn, ↓zS_isl, ↓zS_ist, ↓zS_isd, ↓zS_tus, ↓zS_tui, ↓zS_tub, ↓zS_tun, ↓zS_tul, ↓zS_tud]
  have ne : x ≠ Str.ofString "" := fun e => by
    have := h.l0
    rw [e] at this
    exact absurd this (by decide +kernel)
  rw [decide_eq_false ne]
  simp only [↓zHd0, zHp0, ↓zGd0, ↓zGd1, ↓zGd2, ↓zGd3, ↓zGd4, zGp0, startD, ↓List.map_cons, ↓List.map_nil, ↓List.length_cons, ↓List.length_nil, Nat.reduceAdd, Nat.reduceSub, Nat.sub_self, List.replicate, ↓List.cons_append, ↓List.nil_append, List.append_nil, ↓List.getElem?_cons_zero, ↓List.getElem?_cons_succ, ↓List.set_cons_zero, ↓List.set_cons_succ, wipeD, Bool.not_true, Bool.not_false, decide_true, decide_false, beq_self_eq_true, true_and, and_true, Nat.reduceLeDiff, toDs, toDk, toDs_sh, ↓zS_ownO, ↓zS_ii, ↓zS_bi, ↓zS_tt, ↓zS_ll, ↓zS_ss, ↓zS_isC, ↓zS_isCD, ↓zS_ms, ↓zS_c1, ↓zS_c2, ↓zS_iis, ↓zS_iii, ↓zS_ibi, ↓zS_iib, ↓zS_ibb, ↓zS_iin, ↓zS_iil, ↓zS_iit, ↓zS_iid, ↓zS_isI, ↓zS_isb, ↓zS_isn, ↓zS_isl, ↓zS_ist, ↓zS_isd, ↓zS_tus, ↓zS_tui, ↓zS_tub, ↓zS_tun, ↓zS_tul, ↓zS_tud]
  refine ⟨by show (chars x).length ≤ _; unfold chars; rw [List.length_map, len_toList]; exact sz_w (by have := h.l1; omega), ?_⟩
  refine lc_of (fun c : Nat => .str ⟨#[c]⟩) (fun _ => .bl true) x.cps.toList [] (fun c hc R hR => ?_) ?_
  · show R (.bl (decide (c ∈ x_LETTERS.cps.toList)))
    rw [decide_eq_true (let_in (h.le c hc))]
    exact hR
  · refine all_t (fun d hd => ?_) hq
    rw [List.nil_append] at hd
    obtain ⟨_, _, rfl⟩ := List.mem_map.mp hd
    rfl
theorem colI_ok {s t : Str} {Q : List D → Prop} (hs : OkC s) (ht : OkC t) (hq : Q [.str t, .str s]) : S_Colours___init__ [.str s, .str t] Q := by
  refine ⟨rfl, fun x => ?_⟩
  show t_Colours___init__ _ [some (.nw x 4 []), some (.sh (.str s)), some (.sh (.str t)), none, none]
  simp only [t_Colours___init__, ↓zHd0, zHp0, ↓zGd0, ↓zGd1, ↓zGd2, ↓zGd3, ↓zGd4, zGp0, startD, ↓List.map_cons, ↓List.map_nil, ↓List.length_cons, ↓List.length_nil, Nat.reduceAdd, Nat.reduceSub, Nat.sub_self, List.replicate, ↓List.cons_append, ↓List.nil_append, List.append_nil, ↓List.getElem?_cons_zero, ↓List.getElem?_cons_succ, ↓List.set_cons_zero, ↓List.set_cons_succ, wipeD, Bool.not_true, Bool.not_false, decide_true, decide_false, beq_self_eq_true, true_and, and_true, Nat.reduceLeDiff, toDs, toDk, toDs_sh, ↓zS_ownO, ↓zS_ii, ↓zS_bi, ↓zS_tt, ↓zS_ll, ↓zS_ss, ↓zS_isC, ↓zS_isCD, ↓zS_ms, ↓zS_c1, ↓zS_c2, ↓zS_iis, ↓zS_iii, ↓zS_ibi, ↓zS_iib, ↓zS_ibb, ↓zS_iin, ↓zS_iil, ↓zS_iit, ↓zS_iid, ↓zS_isI, ↓zS_isb, ↓zS_isn, ↓zS_isl, ↓zS_ist, ↓zS_isd, ↓zS_tus, ↓zS_tui, ↓zS_tub, ↓zS_tun, ↓zS_tul, ↓zS_tud]
  rw [enum2, forD_c]
  simp only [b_Colours___init___1, ↓zHd0, zHp0, ↓zGd0, ↓zGd1, ↓zGd2, ↓zGd3, ↓zGd4, zGp0, startD, ↓List.map_cons, ↓List.map_nil, ↓List.length_cons, ↓List.length_nil, Nat.reduceAdd, Nat.reduceSub, Nat.sub_self, List.replicate, ↓List.cons_append, ↓List.nil_append, List.append_nil, ↓List.getElem?_cons_zero, ↓List.getElem?_cons_succ, ↓List.set_cons_zero, ↓List.set_cons_succ, wipeD, Bool.not_true, Bool.not_false, decide_true, decide_false, beq_self_eq_true, true_and, and_true, Nat.reduceLeDiff, toDs, toDk, toDs_sh, ↓zS_ownO, ↓zS_ii, ↓zS_bi, ↓zS_tt, ↓zS_ll, ↓zS_ss, ↓zS_isC, ↓zS_isCD, ↓zS_ms, ↓zS_c1, ↓zS_c2, ↓zS_iis, ↓zS_iii, ↓zS_ibi, ↓zS_iib, ↓zS_ibb, ↓zS_iin, ↓zS_iil, ↓zS_iit, ↓zS_iid, ↓zS_isI, ↓zS_isb, ↓zS_isn, ↓zS_isl, ↓zS_ist, ↓zS_isd, ↓zS_tus, ↓zS_tui, ↓zS_tub, ↓zS_tun, ↓zS_tul, ↓zS_tud]
  refine cols_ok hs ?_
  simp only [forD_c, b_Colours___init___1, ↓zHd0, zHp0, ↓zGd0, ↓zGd1, ↓zGd2, ↓zGd3, ↓zGd4, zGp0, startD, ↓List.map_cons, ↓List.map_nil, ↓List.length_cons, ↓List.length_nil, Nat.reduceAdd, Nat.reduceSub, Nat.sub_self, List.replicate, ↓List.cons_append, ↓List.nil_append, List.append_nil, ↓List.getElem?_cons_zero, ↓List.getElem?_cons_succ, ↓List.set_cons_zero, ↓List.set_cons_succ, wipeD, Bool.not_true, Bool.not_false, decide_true, decide_false, beq_self_eq_true, true_and, and_true, Nat.reduceLeDiff, toDs, toDk, toDs_sh, ↓zS_ownO, ↓zS_ii, ↓zS_bi, ↓zS_tt, ↓zS_ll, ↓zS_ss, ↓zS_isC, ↓zS_isCD, ↓zS_ms, ↓zS_c1, ↓zS_c2, ↓zS_iis, ↓zS_iii, ↓zS_ibi, ↓zS_iib, ↓zS_ibb, ↓zS_iin, ↓zS_iil, ↓zS_iit, ↓zS_iid, ↓zS_isI, ↓zS_isb, ↓zS_isn, ↓zS_isl, ↓zS_ist, ↓zS_isd, ↓zS_tus, ↓zS_tui, ↓zS_tub, ↓zS_tun, ↓zS_tul, ↓zS_tud]
  refine cols_ok ht ?_
  simp only [forD_n, ↓zHd0, zHp0, ↓zGd0, ↓zGd1, ↓zGd2, ↓zGd3, ↓zGd4, zGp0, startD, ↓List.map_cons, ↓List.map_nil, ↓List.length_cons, ↓List.length_nil, Nat.reduceAdd, Nat.reduceSub, Nat.sub_self, List.replicate, ↓List.cons_append, ↓List.nil_append, List.append_nil, ↓List.getElem?_cons_zero, ↓List.getElem?_cons_succ, ↓List.set_cons_zero, ↓List.set_cons_succ, wipeD, Bool.not_true, Bool.not_false, decide_true, decide_false, beq_self_eq_true, true_and, and_true, Nat.reduceLeDiff, toDs, toDk, toDs_sh, ↓zS_ownO, ↓zS_ii, ↓zS_bi, ↓zS_tt, ↓zS_ll, ↓zS_ss, ↓zS_isC, ↓zS_isCD, ↓zS_ms, ↓zS_c1, ↓zS_c2, ↓zS_iis, ↓zS_iii, ↓zS_ibi, ↓zS_iib, ↓zS_ibb, ↓zS_iin, ↓zS_iil, ↓zS_iit, ↓zS_iid, ↓zS_isI, ↓zS_isb, ↓zS_isn, ↓zS_isl, ↓zS_ist, ↓zS_isd, ↓zS_tus, ↓zS_tui, ↓zS_tub, ↓zS_tun, ↓zS_tul, ↓zS_tud]
  refine ⟨⟨rfl, rfl⟩, ⟨rfl, rfl⟩, [.str t, .str s], rfl, by simp, hq⟩
theorem count_ok {k : Nat} {Q : D → Prop} (hq : Q (.bl true)) : S_is_count [.int k] Q := cnt_ok rfl (by show Q (.bl (decide (0 ≤ (k : Int)))); rw [decide_eq_true (by omega)]; exact hq)
theorem side_ok {x : Str} {Q : D → Prop} (h : x = Str.ofString "sun" ∨ x = Str.ofString "moon") (hq : Q (.bl true)) : S_is_side [.str x] Q := by
  refine ⟨rfl, ?_⟩
  show t_is_side _ [some (.sh (.str x))]
  simp only [t_is_side, c_SIDES, cTup, ↓zHd0, zHp0, ↓zGd0, ↓zGd1, ↓zGd2, ↓zGd3, ↓zGd4, zGp0, startD, ↓List.map_cons, ↓List.map_nil, ↓List.length_cons, ↓List.length_nil, Nat.reduceAdd, Nat.reduceSub, Nat.sub_self, List.replicate, ↓List.cons_append, ↓List.nil_append, List.append_nil, ↓List.getElem?_cons_zero, ↓List.getElem?_cons_succ, ↓List.set_cons_zero, ↓List.set_cons_succ, wipeD, Bool.not_true, Bool.not_false, decide_true, decide_false, beq_self_eq_true, true_and, and_true, Nat.reduceLeDiff, toDs, toDk, toDs_sh, ↓zS_ownO, ↓zS_ii, ↓zS_bi, ↓zS_tt, ↓zS_ll, ↓zS_ss, ↓zS_isC, ↓zS_isCD, ↓zS_ms, ↓zS_c1, ↓zS_c2, ↓zS_iis, ↓zS_iii, ↓zS_ibi, ↓zS_iib, ↓zS_ibb, ↓zS_iin, ↓zS_iil, ↓zS_iit, ↓zS_iid, ↓zS_isI, ↓zS_isb, ↓zS_isn, ↓zS_isl, ↓zS_ist, ↓zS_isd, ↓zS_tus, ↓zS_tui, ↓zS_tub, ↓zS_tun, ↓zS_tul, ↓zS_tud]
  rcases h with rfl | rfl
  · refine ⟨⟨rfl, rfl⟩, ?_⟩
    rw [show inD (.str (Str.ofString "sun")) [.str (Str.ofString "moon"), .str (Str.ofString "sun")] = true by decide +kernel]
    exact hq
  · refine ⟨⟨rfl, rfl⟩, ?_⟩
    rw [show inD (.str (Str.ofString "moon")) [.str (Str.ofString "moon"), .str (Str.ofString "sun")] = true by decide +kernel]
    exact hq
def chr (x : Str) (k : Nat) : Nat := x.cps.toList.getD (k % x.length) 0
theorem chr_at {x : Str} (h : OkC x) (k : Nat) : atI x.cps.toList ((k : Int) % (x.length : Int)) = some (chr x k) := by
  rw [← Int.natCast_emod]
  have hl : k % x.length < x.cps.toList.length := by rw [len_toList]; exact Nat.mod_lt _ h.l0
  refine atI_q (by omega) ?_
  rw [Int.toNat_natCast]
  unfold chr
  rw [List.getD_eq_getElem?_getD, List.getElem?_eq_getElem hl]
  rfl
theorem chr_let {x : Str} (h : OkC x) (k : Nat) : isLet (chr x k) = true := by
  have hl : k % x.length < x.cps.toList.length := by rw [len_toList]; exact Nat.mod_lt _ h.l0
  unfold chr
  rw [List.getD_eq_getElem?_getD, List.getElem?_eq_getElem hl]
  exact h.le _ (List.getElem_mem hl)
theorem sun_moon : decide (Str.ofString "moon" = Str.ofString "sun") = false := by decide +kernel
theorem shown_ok {s t : Str} {b : Bool} {k : Nat} {Q : D → Prop} (hs : OkC s) (ht : OkC t) (hq : Q (.str ⟨#[chr (if b then s else t) k]⟩)) : S_Colours_shown [co s t, .tup [.str (if b then Str.ofString "sun" else Str.ofString "moon"), .int k]] Q := by
  refine ⟨rfl, ?_⟩
  show t_Colours_shown _ [some (.sh (co s t)), some (.sh (.tup [.str (if b then Str.ofString "sun" else Str.ofString "moon"), .int k])), none]
  simp only [t_Colours_shown, ↓zHd0, zHp0, ↓zGd0, ↓zGd1, ↓zGd2, ↓zGd3, ↓zGd4, zGp0, startD, ↓List.map_cons, ↓List.map_nil, ↓List.length_cons, ↓List.length_nil, Nat.reduceAdd, Nat.reduceSub, Nat.sub_self, List.replicate, ↓List.cons_append, ↓List.nil_append, List.append_nil, ↓List.getElem?_cons_zero, ↓List.getElem?_cons_succ, ↓List.set_cons_zero, ↓List.set_cons_succ, wipeD, Bool.not_true, Bool.not_false, decide_true, decide_false, beq_self_eq_true, true_and, and_true, Nat.reduceLeDiff, toDs, toDk, toDs_sh, ↓zS_ownO, ↓zS_ii, ↓zS_bi, ↓zS_tt, ↓zS_ll, ↓zS_ss, ↓zS_isC, ↓zS_isCD, ↓zS_ms, ↓zS_c1, ↓zS_c2, ↓zS_iis, ↓zS_iii, ↓zS_ibi, ↓zS_iib, ↓zS_ibb, ↓zS_iin, ↓zS_iil, ↓zS_iit, ↓zS_iid, ↓zS_isI, ↓zS_isb, ↓zS_isn, ↓zS_isl, ↓zS_ist, ↓zS_isd, ↓zS_tus, ↓zS_tui, ↓zS_tub, ↓zS_tun, ↓zS_tul, ↓zS_tud]
  have hb : (if b then Str.ofString "sun" else Str.ofString "moon") = Str.ofString "sun" ∨ (if b then Str.ofString "sun" else Str.ofString "moon") = Str.ofString "moon" := by cases b <;> simp
  refine side_ok hb ?_
  simp only [↓zHd0, zHp0, ↓zGd0, ↓zGd1, ↓zGd2, ↓zGd3, ↓zGd4, zGp0, startD, ↓List.map_cons, ↓List.map_nil, ↓List.length_cons, ↓List.length_nil, Nat.reduceAdd, Nat.reduceSub, Nat.sub_self, List.replicate, ↓List.cons_append, ↓List.nil_append, List.append_nil, ↓List.getElem?_cons_zero, ↓List.getElem?_cons_succ, ↓List.set_cons_zero, ↓List.set_cons_succ, wipeD, Bool.not_true, Bool.not_false, decide_true, decide_false, beq_self_eq_true, true_and, and_true, Nat.reduceLeDiff, toDs, toDk, toDs_sh, ↓zS_ownO, ↓zS_ii, ↓zS_bi, ↓zS_tt, ↓zS_ll, ↓zS_ss, ↓zS_isC, ↓zS_isCD, ↓zS_ms, ↓zS_c1, ↓zS_c2, ↓zS_iis, ↓zS_iii, ↓zS_ibi, ↓zS_iib, ↓zS_ibb, ↓zS_iin, ↓zS_iil, ↓zS_iit, ↓zS_iid, ↓zS_isI, ↓zS_isb, ↓zS_isn, ↓zS_isl, ↓zS_ist, ↓zS_isd, ↓zS_tus, ↓zS_tui, ↓zS_tub, ↓zS_tun, ↓zS_tul, ↓zS_tud]
  refine count_ok ?_
  simp only [Colours_shown_at_3, ↓zHd0, zHp0, ↓zGd0, ↓zGd1, ↓zGd2, ↓zGd3, ↓zGd4, zGp0, startD, ↓List.map_cons, ↓List.map_nil, ↓List.length_cons, ↓List.length_nil, Nat.reduceAdd, Nat.reduceSub, Nat.sub_self, List.replicate, ↓List.cons_append, ↓List.nil_append, List.append_nil, ↓List.getElem?_cons_zero, ↓List.getElem?_cons_succ, ↓List.set_cons_zero, ↓List.set_cons_succ, wipeD, Bool.not_true, Bool.not_false, decide_true, decide_false, beq_self_eq_true, true_and, and_true, Nat.reduceLeDiff, toDs, toDk, toDs_sh, ↓zS_ownO, ↓zS_ii, ↓zS_bi, ↓zS_tt, ↓zS_ll, ↓zS_ss, ↓zS_isC, ↓zS_isCD, ↓zS_ms, ↓zS_c1, ↓zS_c2, ↓zS_iis, ↓zS_iii, ↓zS_ibi, ↓zS_iib, ↓zS_ibb, ↓zS_iin, ↓zS_iil, ↓zS_iit, ↓zS_iid, ↓zS_isI, ↓zS_isb, ↓zS_isn, ↓zS_isl, ↓zS_ist, ↓zS_isd, ↓zS_tus, ↓zS_tui, ↓zS_tub, ↓zS_tun, ↓zS_tul, ↓zS_tud]
  have hsz := hs.l1
  have htz := ht.l1
  cases b with
  | true =>
    simp only [if_true, ↓zHd0, zHp0, ↓zGd0, ↓zGd1, ↓zGd2, ↓zGd3, ↓zGd4, zGp0, startD, ↓List.map_cons, ↓List.map_nil, ↓List.length_cons, ↓List.length_nil, Nat.reduceAdd, Nat.reduceSub, Nat.sub_self, List.replicate, ↓List.cons_append, ↓List.nil_append, List.append_nil, ↓List.getElem?_cons_zero, ↓List.getElem?_cons_succ, ↓List.set_cons_zero, ↓List.set_cons_succ, wipeD, Bool.not_true, Bool.not_false, decide_true, decide_false, beq_self_eq_true, true_and, and_true, Nat.reduceLeDiff, toDs, toDk, toDs_sh, ↓zS_ownO, ↓zS_ii, ↓zS_bi, ↓zS_tt, ↓zS_ll, ↓zS_ss, ↓zS_isC, ↓zS_isCD, ↓zS_ms, ↓zS_c1, ↓zS_c2, ↓zS_iis, ↓zS_iii, ↓zS_ibi, ↓zS_iib, ↓zS_ibb, ↓zS_iin, ↓zS_iil, ↓zS_iit, ↓zS_iid, ↓zS_isI, ↓zS_isb, ↓zS_isn, ↓zS_isl, ↓zS_ist, ↓zS_isd, ↓zS_tus, ↓zS_tui, ↓zS_tub, ↓zS_tun, ↓zS_tul, ↓zS_tud]
    simp only [Colours_shown_at_4, ↓zHd0, zHp0, ↓zGd0, ↓zGd1, ↓zGd2, ↓zGd3, ↓zGd4, zGp0, startD, ↓List.map_cons, ↓List.map_nil, ↓List.length_cons, ↓List.length_nil, Nat.reduceAdd, Nat.reduceSub, Nat.sub_self, List.replicate, ↓List.cons_append, ↓List.nil_append, List.append_nil, ↓List.getElem?_cons_zero, ↓List.getElem?_cons_succ, ↓List.set_cons_zero, ↓List.set_cons_succ, wipeD, Bool.not_true, Bool.not_false, decide_true, decide_false, beq_self_eq_true, true_and, and_true, Nat.reduceLeDiff, toDs, toDk, toDs_sh, ↓zS_ownO, ↓zS_ii, ↓zS_bi, ↓zS_tt, ↓zS_ll, ↓zS_ss, ↓zS_isC, ↓zS_isCD, ↓zS_ms, ↓zS_c1, ↓zS_c2, ↓zS_iis, ↓zS_iii, ↓zS_ibi, ↓zS_iib, ↓zS_ibb, ↓zS_iin, ↓zS_iil, ↓zS_iit, ↓zS_iid, ↓zS_isI, ↓zS_isb, ↓zS_isn, ↓zS_isl, ↓zS_ist, ↓zS_isd, ↓zS_tus, ↓zS_tui, ↓zS_tub, ↓zS_tun, ↓zS_tul, ↓zS_tud]
    refine ⟨sz_w (by omega), by have := hs.l0; omega, sz_w (by omega), ?_⟩
    rw [chr_at hs]
    exact hq
  | false =>
    simp only [Bool.false_eq_true, if_false, sun_moon, ↓zHd0, zHp0, ↓zGd0, ↓zGd1, ↓zGd2, ↓zGd3, ↓zGd4, zGp0, startD, ↓List.map_cons, ↓List.map_nil, ↓List.length_cons, ↓List.length_nil, Nat.reduceAdd, Nat.reduceSub, Nat.sub_self, List.replicate, ↓List.cons_append, ↓List.nil_append, List.append_nil, ↓List.getElem?_cons_zero, ↓List.getElem?_cons_succ, ↓List.set_cons_zero, ↓List.set_cons_succ, wipeD, Bool.not_true, Bool.not_false, decide_true, decide_false, beq_self_eq_true, true_and, and_true, Nat.reduceLeDiff, toDs, toDk, toDs_sh, ↓zS_ownO, ↓zS_ii, ↓zS_bi, ↓zS_tt, ↓zS_ll, ↓zS_ss, ↓zS_isC, ↓zS_isCD, ↓zS_ms, ↓zS_c1, ↓zS_c2, ↓zS_iis, ↓zS_iii, ↓zS_ibi, ↓zS_iib, ↓zS_ibb, ↓zS_iin, ↓zS_iil, ↓zS_iit, ↓zS_iid, ↓zS_isI, ↓zS_isb, ↓zS_isn, ↓zS_isl, ↓zS_ist, ↓zS_isd, ↓zS_tus, ↓zS_tui, ↓zS_tub, ↓zS_tun, ↓zS_tul, ↓zS_tud]
    simp only [Colours_shown_at_4, ↓zHd0, zHp0, ↓zGd0, ↓zGd1, ↓zGd2, ↓zGd3, ↓zGd4, zGp0, startD, ↓List.map_cons, ↓List.map_nil, ↓List.length_cons, ↓List.length_nil, Nat.reduceAdd, Nat.reduceSub, Nat.sub_self, List.replicate, ↓List.cons_append, ↓List.nil_append, List.append_nil, ↓List.getElem?_cons_zero, ↓List.getElem?_cons_succ, ↓List.set_cons_zero, ↓List.set_cons_succ, wipeD, Bool.not_true, Bool.not_false, decide_true, decide_false, beq_self_eq_true, true_and, and_true, Nat.reduceLeDiff, toDs, toDk, toDs_sh, ↓zS_ownO, ↓zS_ii, ↓zS_bi, ↓zS_tt, ↓zS_ll, ↓zS_ss, ↓zS_isC, ↓zS_isCD, ↓zS_ms, ↓zS_c1, ↓zS_c2, ↓zS_iis, ↓zS_iii, ↓zS_ibi, ↓zS_iib, ↓zS_ibb, ↓zS_iin, ↓zS_iil, ↓zS_iit, ↓zS_iid, ↓zS_isI, ↓zS_isb, ↓zS_isn, ↓zS_isl, ↓zS_ist, ↓zS_isd, ↓zS_tus, ↓zS_tui, ↓zS_tub, ↓zS_tun, ↓zS_tul, ↓zS_tud]
    refine ⟨sz_w (by omega), by have := ht.l0; omega, sz_w (by omega), ?_⟩
    rw [chr_at ht]
    exact hq
theorem myCol_ok {s t : Str} {Q : D → Prop} {b : Bool} {k : Nat} (hs : OkC s) (ht : OkC t) (hq : Q (.str ⟨#[chr (if b then s else t) k]⟩)) : S__law_my_colour [.lst [.str s, .str t], .str (if b then Str.ofString "sun" else Str.ofString "moon"), .int k] Q := by
  have hsz := hs.l1
  have htz := ht.l1
  refine ⟨rfl, ?_⟩
  show t__law_my_colour _ [some (.sh (.lst [.str s, .str t])), some (.sh (.str (if b then Str.ofString "sun" else Str.ofString "moon"))), some (.sh (.int k)), none]
  cases b with
  | true =>
    simp only [t__law_my_colour, if_true, ↓zHd0, zHp0, ↓zGd0, ↓zGd1, ↓zGd2, ↓zGd3, ↓zGd4, zGp0, startD, ↓List.map_cons, ↓List.map_nil, ↓List.length_cons, ↓List.length_nil, Nat.reduceAdd, Nat.reduceSub, Nat.sub_self, List.replicate, ↓List.cons_append, ↓List.nil_append, List.append_nil, ↓List.getElem?_cons_zero, ↓List.getElem?_cons_succ, ↓List.set_cons_zero, ↓List.set_cons_succ, wipeD, Bool.not_true, Bool.not_false, decide_true, decide_false, beq_self_eq_true, true_and, and_true, Nat.reduceLeDiff, toDs, toDk, toDs_sh, ↓zS_ownO, ↓zS_ii, ↓zS_bi, ↓zS_tt, ↓zS_ll, ↓zS_ss, ↓zS_isC, ↓zS_isCD, ↓zS_ms, ↓zS_c1, ↓zS_c2, ↓zS_iis, ↓zS_iii, ↓zS_ibi, ↓zS_iib, ↓zS_ibb, ↓zS_iin, ↓zS_iil, ↓zS_iit, ↓zS_iid, ↓zS_isI, ↓zS_isb, ↓zS_isn, ↓zS_isl, ↓zS_ist, ↓zS_isd, ↓zS_tus, ↓zS_tui, ↓zS_tub, ↓zS_tun, ↓zS_tul, ↓zS_tud]
    rw [show decide (Str.ofString "sun" = Str.ofString "moon") = false by decide +kernel]
    simp only [Bool.false_eq_true, if_false, ↓zHd0, zHp0, ↓zGd0, ↓zGd1, ↓zGd2, ↓zGd3, ↓zGd4, zGp0, startD, ↓List.map_cons, ↓List.map_nil, ↓List.length_cons, ↓List.length_nil, Nat.reduceAdd, Nat.reduceSub, Nat.sub_self, List.replicate, ↓List.cons_append, ↓List.nil_append, List.append_nil, ↓List.getElem?_cons_zero, ↓List.getElem?_cons_succ, ↓List.set_cons_zero, ↓List.set_cons_succ, wipeD, Bool.not_true, Bool.not_false, decide_true, decide_false, beq_self_eq_true, true_and, and_true, Nat.reduceLeDiff, toDs, toDk, toDs_sh, ↓zS_ownO, ↓zS_ii, ↓zS_bi, ↓zS_tt, ↓zS_ll, ↓zS_ss, ↓zS_isC, ↓zS_isCD, ↓zS_ms, ↓zS_c1, ↓zS_c2, ↓zS_iis, ↓zS_iii, ↓zS_ibi, ↓zS_iib, ↓zS_ibb, ↓zS_iin, ↓zS_iil, ↓zS_iit, ↓zS_iid, ↓zS_isI, ↓zS_isb, ↓zS_isn, ↓zS_isl, ↓zS_ist, ↓zS_isd, ↓zS_tus, ↓zS_tui, ↓zS_tub, ↓zS_tun, ↓zS_tul, ↓zS_tud]
    simp only [_law_my_colour_at_2, ↓zHd0, zHp0, ↓zGd0, ↓zGd1, ↓zGd2, ↓zGd3, ↓zGd4, zGp0, startD, ↓List.map_cons, ↓List.map_nil, ↓List.length_cons, ↓List.length_nil, Nat.reduceAdd, Nat.reduceSub, Nat.sub_self, List.replicate, ↓List.cons_append, ↓List.nil_append, List.append_nil, ↓List.getElem?_cons_zero, ↓List.getElem?_cons_succ, ↓List.set_cons_zero, ↓List.set_cons_succ, wipeD, Bool.not_true, Bool.not_false, decide_true, decide_false, beq_self_eq_true, true_and, and_true, Nat.reduceLeDiff, toDs, toDk, toDs_sh, ↓zS_ownO, ↓zS_ii, ↓zS_bi, ↓zS_tt, ↓zS_ll, ↓zS_ss, ↓zS_isC, ↓zS_isCD, ↓zS_ms, ↓zS_c1, ↓zS_c2, ↓zS_iis, ↓zS_iii, ↓zS_ibi, ↓zS_iib, ↓zS_ibb, ↓zS_iin, ↓zS_iil, ↓zS_iit, ↓zS_iid, ↓zS_isI, ↓zS_isb, ↓zS_isn, ↓zS_isl, ↓zS_ist, ↓zS_isd, ↓zS_tus, ↓zS_tui, ↓zS_tub, ↓zS_tun, ↓zS_tul, ↓zS_tud]
    refine ⟨sz_w (by omega), by have := hs.l0; omega, sz_w (by omega), ?_⟩
    rw [chr_at hs]
    exact hq
  | false =>
    simp only [t__law_my_colour, Bool.false_eq_true, if_false, ↓zHd0, zHp0, ↓zGd0, ↓zGd1, ↓zGd2, ↓zGd3, ↓zGd4, zGp0, startD, ↓List.map_cons, ↓List.map_nil, ↓List.length_cons, ↓List.length_nil, Nat.reduceAdd, Nat.reduceSub, Nat.sub_self, List.replicate, ↓List.cons_append, ↓List.nil_append, List.append_nil, ↓List.getElem?_cons_zero, ↓List.getElem?_cons_succ, ↓List.set_cons_zero, ↓List.set_cons_succ, wipeD, Bool.not_true, Bool.not_false, decide_true, decide_false, beq_self_eq_true, true_and, and_true, Nat.reduceLeDiff, toDs, toDk, toDs_sh, ↓zS_ownO, ↓zS_ii, ↓zS_bi, ↓zS_tt, ↓zS_ll, ↓zS_ss, ↓zS_isC, ↓zS_isCD, ↓zS_ms, ↓zS_c1, ↓zS_c2, ↓zS_iis, ↓zS_iii, ↓zS_ibi, ↓zS_iib, ↓zS_ibb, ↓zS_iin, ↓zS_iil, ↓zS_iit, ↓zS_iid, ↓zS_isI, ↓zS_isb, ↓zS_isn, ↓zS_isl, ↓zS_ist, ↓zS_isd, ↓zS_tus, ↓zS_tui, ↓zS_tub, ↓zS_tun, ↓zS_tul, ↓zS_tud]
    simp only [if_true, ↓zHd0, zHp0, ↓zGd0, ↓zGd1, ↓zGd2, ↓zGd3, ↓zGd4, zGp0, startD, ↓List.map_cons, ↓List.map_nil, ↓List.length_cons, ↓List.length_nil, Nat.reduceAdd, Nat.reduceSub, Nat.sub_self, List.replicate, ↓List.cons_append, ↓List.nil_append, List.append_nil, ↓List.getElem?_cons_zero, ↓List.getElem?_cons_succ, ↓List.set_cons_zero, ↓List.set_cons_succ, wipeD, Bool.not_true, Bool.not_false, decide_true, decide_false, beq_self_eq_true, true_and, and_true, Nat.reduceLeDiff, toDs, toDk, toDs_sh, ↓zS_ownO, ↓zS_ii, ↓zS_bi, ↓zS_tt, ↓zS_ll, ↓zS_ss, ↓zS_isC, ↓zS_isCD, ↓zS_ms, ↓zS_c1, ↓zS_c2, ↓zS_iis, ↓zS_iii, ↓zS_ibi, ↓zS_iib, ↓zS_ibb, ↓zS_iin, ↓zS_iil, ↓zS_iit, ↓zS_iid, ↓zS_isI, ↓zS_isb, ↓zS_isn, ↓zS_isl, ↓zS_ist, ↓zS_isd, ↓zS_tus, ↓zS_tui, ↓zS_tub, ↓zS_tun, ↓zS_tul, ↓zS_tud]
    simp only [_law_my_colour_at_2, ↓zHd0, zHp0, ↓zGd0, ↓zGd1, ↓zGd2, ↓zGd3, ↓zGd4, zGp0, startD, ↓List.map_cons, ↓List.map_nil, ↓List.length_cons, ↓List.length_nil, Nat.reduceAdd, Nat.reduceSub, Nat.sub_self, List.replicate, ↓List.cons_append, ↓List.nil_append, List.append_nil, ↓List.getElem?_cons_zero, ↓List.getElem?_cons_succ, ↓List.set_cons_zero, ↓List.set_cons_succ, wipeD, Bool.not_true, Bool.not_false, decide_true, decide_false, beq_self_eq_true, true_and, and_true, Nat.reduceLeDiff, toDs, toDk, toDs_sh, ↓zS_ownO, ↓zS_ii, ↓zS_bi, ↓zS_tt, ↓zS_ll, ↓zS_ss, ↓zS_isC, ↓zS_isCD, ↓zS_ms, ↓zS_c1, ↓zS_c2, ↓zS_iis, ↓zS_iii, ↓zS_ibi, ↓zS_iib, ↓zS_ibb, ↓zS_iin, ↓zS_iil, ↓zS_iit, ↓zS_iid, ↓zS_isI, ↓zS_isb, ↓zS_isn, ↓zS_isl, ↓zS_ist, ↓zS_isd, ↓zS_tus, ↓zS_tui, ↓zS_tub, ↓zS_tun, ↓zS_tul, ↓zS_tud]
    refine ⟨sz_w (by omega), by have := ht.l0; omega, sz_w (by omega), ?_⟩
    rw [chr_at ht]
    exact hq
theorem let_ok {l : List Nat} (h : ∀ c ∈ l, isLet c = true) : PyData.strOk (ofCodes l) = true := by
  unfold PyData.strOk
  rw [← Array.all_toList, tl_codes, List.all_eq_true]
  intro c hc
  have := Bool.and_eq_true_iff.mp (h c hc)
  have h1 := of_decide_eq_true this.1
  have h2 := of_decide_eq_true this.2
  exact decide_eq_true (by omega)
theorem sgs_of : ∀ {ys : List D}, (∀ y ∈ ys, ∃ c, y = sg c ∧ isLet c = true) → ∃ cs : List Nat, ys = cs.map sg ∧ ∀ c ∈ cs, isLet c = true
  | [], _ => ⟨[], rfl, fun _ h => nomatch h⟩
  | y :: ys, h => by
    obtain ⟨c, rfl, hc⟩ := h y List.mem_cons_self
    obtain ⟨cs, rfl, hcs⟩ := sgs_of fun z hz => h z (List.mem_cons_of_mem _ hz)
    exact ⟨c :: cs, rfl, fun d hd => (List.mem_cons.mp hd).elim (fun e => e ▸ hc) (hcs d)⟩
abbrev abc : Str := Str.ofString "abcdefghijklmnopqrstuvwxyz"
theorem abc_len : (abc ++ abc).cps.toList.length = 52 := by decide +kernel
theorem abc_let : ∀ c ∈ (abc ++ abc).cps.toList, isLet c = true := by
  have : (abc ++ abc).cps.toList.all isLet = true := by decide +kernel
  exact fun c hc => List.all_eq_true.mp this c hc
abbrev Sm (zs : List Nat) (v : V) (xs : List OD) (o3 o4 o5 o6 : Option SD) : DS := [some (.sh .bag), some (.sh (.lst (zs.map fun z : Nat => .int z))), some (.ow v (.lst xs)), o3, o4, o5, o6]
theorem mc_5 {W : DEnds} {zs : List Nat} {v : V} {xs : List OD} {a : Nat} {o3 o6 : Option SD} (ha : a < 26) (hx : xs.length ≤ 10) (hz : 0 < zs.length ∧ zs.length ≤ 100) (hz2 : ∀ z ∈ zs, 1 ≤ z ∧ z ≤ 100) (hN : ∀ s, OkC s → s.length ∈ zs → ∀ o3 o4 o5 o6, W.nx (Sm zs v (xs ++ [.sh (.str s)]) o3 o4 o5 o6)) :
    _law_my_colours_at_5 W (Sm zs v xs o3 (some (.sh (.str abc))) (some (.sh (.int a))) o6) := by
  have hl : (abc ++ abc).length = 52 := by rw [← len_toList]; exact abc_len
  simp only [_law_my_colours_at_5, ↓zHd0, zHp0, ↓zGd0, ↓zGd1, ↓zGd2, ↓zGd3, ↓zGd4, zGp0, startD, ↓List.map_cons, ↓List.map_nil, ↓List.length_cons, ↓List.length_nil, Nat.reduceAdd, Nat.reduceSub, Nat.sub_self, List.replicate, ↓List.cons_append, ↓List.nil_append, List.append_nil, ↓List.getElem?_cons_zero, ↓List.getElem?_cons_succ, ↓List.set_cons_zero, ↓List.set_cons_succ, wipeD, Bool.not_true, Bool.not_false, decide_true, decide_false, beq_self_eq_true, true_and, and_true, Nat.reduceLeDiff, toDs, toDk, toDs_sh, ↓zS_ownO, ↓zS_ii, ↓zS_bi, ↓zS_tt, ↓zS_ll, ↓zS_ss, ↓zS_isC, ↓zS_isCD, ↓zS_ms, ↓zS_c1, ↓zS_c2, ↓zS_iis, ↓zS_iii, ↓zS_ibi, ↓zS_iib, ↓zS_ibb, ↓zS_iin, ↓zS_iil, ↓zS_iit, ↓zS_iid, ↓zS_isI, ↓zS_isb, ↓zS_isn, ↓zS_isl, ↓zS_ist, ↓zS_isd, ↓zS_tus, ↓zS_tui, ↓zS_tub, ↓zS_tun, ↓zS_tul, ↓zS_tud]
  refine ⟨by decide +kernel, by rw [hl]; exact sz_w (by decide), ?_⟩
  have e1 : (⟨(cut (abc ++ abc).cps.toList (some (a : Int)) (some ((a : Int) + 3))).toArray⟩ : Str) = ofCodes (((abc ++ abc).cps.toList.drop a).take 3) := by
    rw [show (a : Int) + 3 = (a : Int) + ((3 : Nat) : Int) from rfl, cut_mid (by rw [abc_len]; omega)]
    rfl
  rw [e1]
  have l3 : (((abc ++ abc).cps.toList.drop a).take 3).length = 3 := by rw [List.length_take, List.length_drop, abc_len]; omega
  have le3 : ∀ c ∈ ((abc ++ abc).cps.toList.drop a).take 3, isLet c = true := fun c hc => abc_let c (List.mem_of_mem_drop (List.mem_of_mem_take hc))
  generalize ((abc ++ abc).cps.toList.drop a).take 3 = y at l3 le3
  simp only [_law_my_colours_at_6, ↓zHd0, zHp0, ↓zGd0, ↓zGd1, ↓zGd2, ↓zGd3, ↓zGd4, zGp0, startD, ↓List.map_cons, ↓List.map_nil, ↓List.length_cons, ↓List.length_nil, Nat.reduceAdd, Nat.reduceSub, Nat.sub_self, List.replicate, ↓List.cons_append, ↓List.nil_append, List.append_nil, ↓List.getElem?_cons_zero, ↓List.getElem?_cons_succ, ↓List.set_cons_zero, ↓List.set_cons_succ, wipeD, Bool.not_true, Bool.not_false, decide_true, decide_false, beq_self_eq_true, true_and, and_true, Nat.reduceLeDiff, toDs, toDk, toDs_sh, ↓zS_ownO, ↓zS_ii, ↓zS_bi, ↓zS_tt, ↓zS_ll, ↓zS_ss, ↓zS_isC, ↓zS_isCD, ↓zS_ms, ↓zS_c1, ↓zS_c2, ↓zS_iis, ↓zS_iii, ↓zS_ibi, ↓zS_iib, ↓zS_ibb, ↓zS_iin, ↓zS_iil, ↓zS_iit, ↓zS_iid, ↓zS_isI, ↓zS_isb, ↓zS_isn, ↓zS_isl, ↓zS_ist, ↓zS_isd, ↓zS_tus, ↓zS_tui, ↓zS_tub, ↓zS_tun, ↓zS_tul, ↓zS_tud]
  refine ⟨⟨by rw [List.length_map]; exact hz.1, by rw [List.length_map]; omega⟩, fun d hd => ?_⟩
  obtain ⟨k, hk, rfl⟩ := List.mem_map.mp hd
  obtain ⟨k1, k3⟩ := hz2 k hk
  simp only [↓zHd0, zHp0, ↓zGd0, ↓zGd1, ↓zGd2, ↓zGd3, ↓zGd4, zGp0, startD, ↓List.map_cons, ↓List.map_nil, ↓List.length_cons, ↓List.length_nil, Nat.reduceAdd, Nat.reduceSub, Nat.sub_self, List.replicate, ↓List.cons_append, ↓List.nil_append, List.append_nil, ↓List.getElem?_cons_zero, ↓List.getElem?_cons_succ, ↓List.set_cons_zero, ↓List.set_cons_succ, wipeD, Bool.not_true, Bool.not_false, decide_true, decide_false, beq_self_eq_true, true_and, and_true, Nat.reduceLeDiff, toDs, toDk, toDs_sh, ↓zS_ownO, ↓zS_ii, ↓zS_bi, ↓zS_tt, ↓zS_ll, ↓zS_ss, ↓zS_isC, ↓zS_isCD, ↓zS_ms, ↓zS_c1, ↓zS_c2, ↓zS_iis, ↓zS_iii, ↓zS_ibi, ↓zS_iib, ↓zS_ibb, ↓zS_iin, ↓zS_iil, ↓zS_iit, ↓zS_iid, ↓zS_isI, ↓zS_isb, ↓zS_isn, ↓zS_isl, ↓zS_ist, ↓zS_isd, ↓zS_tus, ↓zS_tui, ↓zS_tub, ↓zS_tun, ↓zS_tul, ↓zS_tud]
  refine ⟨⟨by omega, by omega⟩, by rw [ups_len]; exact sz_w (by omega), lc_any (fun d => ∃ c, d = sg c ∧ isLet c = true) _ _ (fun d _ R hR => ?_) fun ys hl hy => ?_⟩
  · simp only [↓zHd0, zHp0, ↓zGd0, ↓zGd1, ↓zGd2, ↓zGd3, ↓zGd4, zGp0, startD, ↓List.map_cons, ↓List.map_nil, ↓List.length_cons, ↓List.length_nil, Nat.reduceAdd, Nat.reduceSub, Nat.sub_self, List.replicate, ↓List.cons_append, ↓List.nil_append, List.append_nil, ↓List.getElem?_cons_zero, ↓List.getElem?_cons_succ, ↓List.set_cons_zero, ↓List.set_cons_succ, wipeD, Bool.not_true, Bool.not_false, decide_true, decide_false, beq_self_eq_true, true_and, and_true, Nat.reduceLeDiff, toDs, toDk, toDs_sh, ↓zS_ownO, ↓zS_ii, ↓zS_bi, ↓zS_tt, ↓zS_ll, ↓zS_ss, ↓zS_isC, ↓zS_isCD, ↓zS_ms, ↓zS_c1, ↓zS_c2, ↓zS_iis, ↓zS_iii, ↓zS_ibi, ↓zS_iib, ↓zS_ibb, ↓zS_iin, ↓zS_iil, ↓zS_iit, ↓zS_iid, ↓zS_isI, ↓zS_isb, ↓zS_isn, ↓zS_isl, ↓zS_ist, ↓zS_isd, ↓zS_tus, ↓zS_tui, ↓zS_tub, ↓zS_tun, ↓zS_tul, ↓zS_tud]
    refine ⟨⟨by rw [codes_len, l3]; decide, by rw [codes_len, l3]; decide⟩, fun c hc => ?_⟩
    rw [tl_codes] at hc
    exact hR _ ⟨c, rfl, le3 c hc⟩
  · rw [ups_len] at hl
    obtain ⟨cs, rfl, hcs⟩ := sgs_of hy
    rw [List.length_map] at hl
    rw [List.nil_append]
    show (match strsOf _ with | some ys => _ | none => False)
    rw [strs_signs]
    refine ⟨join_sz (by omega), ?_⟩
    rw [join_signs]
    refine ⟨Nat.lt_of_le_of_lt hx (by decide), ?_⟩
    exact hN (ofCodes cs) ⟨by rw [codes_len]; omega, by rw [codes_len]; omega, fun c hc => hcs c (by rwa [tl_codes] at hc)⟩ (by rw [codes_len, hl, Int.toNat_natCast]; exact hk) _ _ _ _
theorem mc_1 {W : DEnds} {zs : List Nat} {v : V} {xs : List OD} {o3 o4 o5 o6 : Option SD} (hx : xs.length ≤ 10) (hz : 0 < zs.length ∧ zs.length ≤ 100) (hz2 : ∀ z ∈ zs, 1 ≤ z ∧ z ≤ 100) (hN : ∀ s, OkC s → s.length ∈ zs → ∀ o3 o4 o5 o6, W.nx (Sm zs v (xs ++ [.sh (.str s)]) o3 o4 o5 o6)) :
    b__law_my_colours_1 W (Sm zs v xs o3 o4 o5 o6) := by
  simp only [b__law_my_colours_1, ↓zHd0, zHp0, ↓zGd0, ↓zGd1, ↓zGd2, ↓zGd3, ↓zGd4, zGp0, startD, ↓List.map_cons, ↓List.map_nil, ↓List.length_cons, ↓List.length_nil, Nat.reduceAdd, Nat.reduceSub, Nat.sub_self, List.replicate, ↓List.cons_append, ↓List.nil_append, List.append_nil, ↓List.getElem?_cons_zero, ↓List.getElem?_cons_succ, ↓List.set_cons_zero, ↓List.set_cons_succ, wipeD, Bool.not_true, Bool.not_false, decide_true, decide_false, beq_self_eq_true, true_and, and_true, Nat.reduceLeDiff, toDs, toDk, toDs_sh, ↓zS_ownO, ↓zS_ii, ↓zS_bi, ↓zS_tt, ↓zS_ll, ↓zS_ss, ↓zS_isC, ↓zS_isCD, ↓zS_ms, ↓zS_c1, ↓zS_c2, ↓zS_iis, ↓zS_iii, ↓zS_ibi, ↓zS_iib, ↓zS_ibb, ↓zS_iin, ↓zS_iil, ↓zS_iit, ↓zS_iid, ↓zS_isI, ↓zS_isb, ↓zS_isn, ↓zS_isl, ↓zS_ist, ↓zS_isd, ↓zS_tus, ↓zS_tui, ↓zS_tub, ↓zS_tun, ↓zS_tul, ↓zS_tud]
  simp only [_law_my_colours_at_4, ↓zHd0, zHp0, ↓zGd0, ↓zGd1, ↓zGd2, ↓zGd3, ↓zGd4, zGp0, startD, ↓List.map_cons, ↓List.map_nil, ↓List.length_cons, ↓List.length_nil, Nat.reduceAdd, Nat.reduceSub, Nat.sub_self, List.replicate, ↓List.cons_append, ↓List.nil_append, List.append_nil, ↓List.getElem?_cons_zero, ↓List.getElem?_cons_succ, ↓List.set_cons_zero, ↓List.set_cons_succ, wipeD, Bool.not_true, Bool.not_false, decide_true, decide_false, beq_self_eq_true, true_and, and_true, Nat.reduceLeDiff, toDs, toDk, toDs_sh, ↓zS_ownO, ↓zS_ii, ↓zS_bi, ↓zS_tt, ↓zS_ll, ↓zS_ss, ↓zS_isC, ↓zS_isCD, ↓zS_ms, ↓zS_c1, ↓zS_c2, ↓zS_iis, ↓zS_iii, ↓zS_ibi, ↓zS_iib, ↓zS_ibb, ↓zS_iin, ↓zS_iil, ↓zS_iit, ↓zS_iid, ↓zS_isI, ↓zS_isb, ↓zS_isn, ↓zS_isl, ↓zS_ist, ↓zS_isd, ↓zS_tus, ↓zS_tui, ↓zS_tub, ↓zS_tun, ↓zS_tul, ↓zS_tud]
  refine ⟨⟨by decide, by decide +kernel⟩, fun u u0 u1 => ?_⟩
  simp only [↓zHd0, zHp0, ↓zGd0, ↓zGd1, ↓zGd2, ↓zGd3, ↓zGd4, zGp0, startD, ↓List.map_cons, ↓List.map_nil, ↓List.length_cons, ↓List.length_nil, Nat.reduceAdd, Nat.reduceSub, Nat.sub_self, List.replicate, ↓List.cons_append, ↓List.nil_append, List.append_nil, ↓List.getElem?_cons_zero, ↓List.getElem?_cons_succ, ↓List.set_cons_zero, ↓List.set_cons_succ, wipeD, Bool.not_true, Bool.not_false, decide_true, decide_false, beq_self_eq_true, true_and, and_true, Nat.reduceLeDiff, toDs, toDk, toDs_sh, ↓zS_ownO, ↓zS_ii, ↓zS_bi, ↓zS_tt, ↓zS_ll, ↓zS_ss, ↓zS_isC, ↓zS_isCD, ↓zS_ms, ↓zS_c1, ↓zS_c2, ↓zS_iis, ↓zS_iii, ↓zS_ibi, ↓zS_iib, ↓zS_ibb, ↓zS_iin, ↓zS_iil, ↓zS_iit, ↓zS_iid, ↓zS_isI, ↓zS_isb, ↓zS_isn, ↓zS_isl, ↓zS_ist, ↓zS_isd, ↓zS_tus, ↓zS_tui, ↓zS_tub, ↓zS_tun, ↓zS_tul, ↓zS_tud]
  by_cases hu : u = 0
  · rw [iteE_pos hu]
    simp only [↓zHd0, zHp0, ↓zGd0, ↓zGd1, ↓zGd2, ↓zGd3, ↓zGd4, zGp0, startD, ↓List.map_cons, ↓List.map_nil, ↓List.length_cons, ↓List.length_nil, Nat.reduceAdd, Nat.reduceSub, Nat.sub_self, List.replicate, ↓List.cons_append, ↓List.nil_append, List.append_nil, ↓List.getElem?_cons_zero, ↓List.getElem?_cons_succ, ↓List.set_cons_zero, ↓List.set_cons_succ, wipeD, Bool.not_true, Bool.not_false, decide_true, decide_false, beq_self_eq_true, true_and, and_true, Nat.reduceLeDiff, toDs, toDk, toDs_sh, ↓zS_ownO, ↓zS_ii, ↓zS_bi, ↓zS_tt, ↓zS_ll, ↓zS_ss, ↓zS_isC, ↓zS_isCD, ↓zS_ms, ↓zS_c1, ↓zS_c2, ↓zS_iis, ↓zS_iii, ↓zS_ibi, ↓zS_iib, ↓zS_ibb, ↓zS_iin, ↓zS_iil, ↓zS_iit, ↓zS_iid, ↓zS_isI, ↓zS_isb, ↓zS_isn, ↓zS_isl, ↓zS_ist, ↓zS_isd, ↓zS_tus, ↓zS_tui, ↓zS_tub, ↓zS_tun, ↓zS_tul, ↓zS_tud]
    refine ⟨⟨by decide, by decide +kernel⟩, fun a a0 a1 => ?_⟩
    obtain ⟨a, rfl⟩ : ∃ k : Nat, a = (k : Int) := ⟨a.toNat, by omega⟩
    exact mc_5 (by omega) hx hz hz2 hN
  · rw [iteE_neg hu]
    simp only [↓zHd0, zHp0, ↓zGd0, ↓zGd1, ↓zGd2, ↓zGd3, ↓zGd4, zGp0, startD, ↓List.map_cons, ↓List.map_nil, ↓List.length_cons, ↓List.length_nil, Nat.reduceAdd, Nat.reduceSub, Nat.sub_self, List.replicate, ↓List.cons_append, ↓List.nil_append, List.append_nil, ↓List.getElem?_cons_zero, ↓List.getElem?_cons_succ, ↓List.set_cons_zero, ↓List.set_cons_succ, wipeD, Bool.not_true, Bool.not_false, decide_true, decide_false, beq_self_eq_true, true_and, and_true, Nat.reduceLeDiff, toDs, toDk, toDs_sh, ↓zS_ownO, ↓zS_ii, ↓zS_bi, ↓zS_tt, ↓zS_ll, ↓zS_ss, ↓zS_isC, ↓zS_isCD, ↓zS_ms, ↓zS_c1, ↓zS_c2, ↓zS_iis, ↓zS_iii, ↓zS_ibi, ↓zS_iib, ↓zS_ibb, ↓zS_iin, ↓zS_iil, ↓zS_iit, ↓zS_iid, ↓zS_isI, ↓zS_isb, ↓zS_isn, ↓zS_isl, ↓zS_ist, ↓zS_isd, ↓zS_tus, ↓zS_tui, ↓zS_tub, ↓zS_tun, ↓zS_tul, ↓zS_tud]
    exact mc_5 (a := 0) (by decide) hx hz hz2 hN
theorem mycols_ok {zs : List Nat} {Q : D → Prop} (hz : 0 < zs.length ∧ zs.length ≤ 100) (hz2 : ∀ z ∈ zs, 1 ≤ z ∧ z ≤ 100) (hq : ∀ s t, OkC s → OkC t → s.length ∈ zs → t.length ∈ zs → Q (.lst [.str s, .str t])) : S__law_my_colours [.bag, .lst (zs.map fun z : Nat => .int z)] Q := by
  refine ⟨rfl, ?_⟩
  show t__law_my_colours _ [some (.sh .bag), some (.sh (.lst (zs.map fun z : Nat => .int z))), none, none, none, none, none]
  simp only [t__law_my_colours, ↓zHd0, zHp0, ↓zGd0, ↓zGd1, ↓zGd2, ↓zGd3, ↓zGd4, zGp0, startD, ↓List.map_cons, ↓List.map_nil, ↓List.length_cons, ↓List.length_nil, Nat.reduceAdd, Nat.reduceSub, Nat.sub_self, List.replicate, ↓List.cons_append, ↓List.nil_append, List.append_nil, ↓List.getElem?_cons_zero, ↓List.getElem?_cons_succ, ↓List.set_cons_zero, ↓List.set_cons_succ, wipeD, Bool.not_true, Bool.not_false, decide_true, decide_false, beq_self_eq_true, true_and, and_true, Nat.reduceLeDiff, toDs, toDk, toDs_sh, ↓zS_ownO, ↓zS_ii, ↓zS_bi, ↓zS_tt, ↓zS_ll, ↓zS_ss, ↓zS_isC, ↓zS_isCD, ↓zS_ms, ↓zS_c1, ↓zS_c2, ↓zS_iis, ↓zS_iii, ↓zS_ibi, ↓zS_iib, ↓zS_ibb, ↓zS_iin, ↓zS_iil, ↓zS_iit, ↓zS_iid, ↓zS_isI, ↓zS_isb, ↓zS_isn, ↓zS_isl, ↓zS_ist, ↓zS_isd, ↓zS_tus, ↓zS_tui, ↓zS_tub, ↓zS_tun, ↓zS_tul, ↓zS_tud]
  intro v
  simp only [_law_my_colours_at_2, ↓zHd0, zHp0, ↓zGd0, ↓zGd1, ↓zGd2, ↓zGd3, ↓zGd4, zGp0, startD, ↓List.map_cons, ↓List.map_nil, ↓List.length_cons, ↓List.length_nil, Nat.reduceAdd, Nat.reduceSub, Nat.sub_self, List.replicate, ↓List.cons_append, ↓List.nil_append, List.append_nil, ↓List.getElem?_cons_zero, ↓List.getElem?_cons_succ, ↓List.set_cons_zero, ↓List.set_cons_succ, wipeD, Bool.not_true, Bool.not_false, decide_true, decide_false, beq_self_eq_true, true_and, and_true, Nat.reduceLeDiff, toDs, toDk, toDs_sh, ↓zS_ownO, ↓zS_ii, ↓zS_bi, ↓zS_tt, ↓zS_ll, ↓zS_ss, ↓zS_isC, ↓zS_isCD, ↓zS_ms, ↓zS_c1, ↓zS_c2, ↓zS_iis, ↓zS_iii, ↓zS_ibi, ↓zS_iib, ↓zS_ibb, ↓zS_iin, ↓zS_iil, ↓zS_iit, ↓zS_iid, ↓zS_isI, ↓zS_isb, ↓zS_isn, ↓zS_isl, ↓zS_ist, ↓zS_isd, ↓zS_tus, ↓zS_tui, ↓zS_tub, ↓zS_tun, ↓zS_tul, ↓zS_tud]
  refine ⟨by decide, ?_⟩
  rw [show ups 0 (Int.toNat 2) = [.int 0, .int 1] from rfl, forD_c]
  simp only [↓zHd0, zHp0, ↓zGd0, ↓zGd1, ↓zGd2, ↓zGd3, ↓zGd4, zGp0, startD, ↓List.map_cons, ↓List.map_nil, ↓List.length_cons, ↓List.length_nil, Nat.reduceAdd, Nat.reduceSub, Nat.sub_self, List.replicate, ↓List.cons_append, ↓List.nil_append, List.append_nil, ↓List.getElem?_cons_zero, ↓List.getElem?_cons_succ, ↓List.set_cons_zero, ↓List.set_cons_succ, wipeD, Bool.not_true, Bool.not_false, decide_true, decide_false, beq_self_eq_true, true_and, and_true, Nat.reduceLeDiff, toDs, toDk, toDs_sh, ↓zS_ownO, ↓zS_ii, ↓zS_bi, ↓zS_tt, ↓zS_ll, ↓zS_ss, ↓zS_isC, ↓zS_isCD, ↓zS_ms, ↓zS_c1, ↓zS_c2, ↓zS_iis, ↓zS_iii, ↓zS_ibi, ↓zS_iib, ↓zS_ibb, ↓zS_iin, ↓zS_iil, ↓zS_iit, ↓zS_iid, ↓zS_isI, ↓zS_isb, ↓zS_isn, ↓zS_isl, ↓zS_ist, ↓zS_isd, ↓zS_tus, ↓zS_tui, ↓zS_tub, ↓zS_tun, ↓zS_tul, ↓zS_tud]
  refine mc_1 (xs := []) (by decide) hz hz2 fun s hs ls _ _ _ _ => ?_
  simp only [forD_c, ↓zHd0, zHp0, ↓zGd0, ↓zGd1, ↓zGd2, ↓zGd3, ↓zGd4, zGp0, startD, ↓List.map_cons, ↓List.map_nil, ↓List.length_cons, ↓List.length_nil, Nat.reduceAdd, Nat.reduceSub, Nat.sub_self, List.replicate, ↓List.cons_append, ↓List.nil_append, List.append_nil, ↓List.getElem?_cons_zero, ↓List.getElem?_cons_succ, ↓List.set_cons_zero, ↓List.set_cons_succ, wipeD, Bool.not_true, Bool.not_false, decide_true, decide_false, beq_self_eq_true, true_and, and_true, Nat.reduceLeDiff, toDs, toDk, toDs_sh, ↓zS_ownO, ↓zS_ii, ↓zS_bi, ↓zS_tt, ↓zS_ll, ↓zS_ss, ↓zS_isC, ↓zS_isCD, ↓zS_ms, ↓zS_c1, ↓zS_c2, ↓zS_iis, ↓zS_iii, ↓zS_ibi, ↓zS_iib, ↓zS_ibb, ↓zS_iin, ↓zS_iil, ↓zS_iit, ↓zS_iid, ↓zS_isI, ↓zS_isb, ↓zS_isn, ↓zS_isl, ↓zS_ist, ↓zS_isd, ↓zS_tus, ↓zS_tui, ↓zS_tub, ↓zS_tun, ↓zS_tul, ↓zS_tud]
  refine mc_1 (xs := [.sh (.str s)]) (by show 1 ≤ 10; decide) hz hz2 fun t ht lt _ _ _ _ => ?_
  simp only [forD_n, _law_my_colours_at_7, ↓zHd0, zHp0, ↓zGd0, ↓zGd1, ↓zGd2, ↓zGd3, ↓zGd4, zGp0, startD, ↓List.map_cons, ↓List.map_nil, ↓List.length_cons, ↓List.length_nil, Nat.reduceAdd, Nat.reduceSub, Nat.sub_self, List.replicate, ↓List.cons_append, ↓List.nil_append, List.append_nil, ↓List.getElem?_cons_zero, ↓List.getElem?_cons_succ, ↓List.set_cons_zero, ↓List.set_cons_succ, wipeD, Bool.not_true, Bool.not_false, decide_true, decide_false, beq_self_eq_true, true_and, and_true, Nat.reduceLeDiff, toDs, toDk, toDs_sh, ↓zS_ownO, ↓zS_ii, ↓zS_bi, ↓zS_tt, ↓zS_ll, ↓zS_ss, ↓zS_isC, ↓zS_isCD, ↓zS_ms, ↓zS_c1, ↓zS_c2, ↓zS_iis, ↓zS_iii, ↓zS_ibi, ↓zS_iib, ↓zS_ibb, ↓zS_iin, ↓zS_iil, ↓zS_iit, ↓zS_iid, ↓zS_isI, ↓zS_isb, ↓zS_isn, ↓zS_isl, ↓zS_ist, ↓zS_isd, ↓zS_tus, ↓zS_tui, ↓zS_tub, ↓zS_tun, ↓zS_tul, ↓zS_tud]
  exact hq s t hs ht ls lt
theorem suns_ok {s t : Str} {Q : D → Prop} (hq : Q (.str s)) : S_Colours_suns [co s t] Q := by
  refine ⟨rfl, ?_⟩
  show t_Colours_suns _ [some (.sh (co s t))]
  simp only [t_Colours_suns, ↓zHd0, zHp0, ↓zGd0, ↓zGd1, ↓zGd2, ↓zGd3, ↓zGd4, zGp0, startD, ↓List.map_cons, ↓List.map_nil, ↓List.length_cons, ↓List.length_nil, Nat.reduceAdd, Nat.reduceSub, Nat.sub_self, List.replicate, ↓List.cons_append, ↓List.nil_append, List.append_nil, ↓List.getElem?_cons_zero, ↓List.getElem?_cons_succ, ↓List.set_cons_zero, ↓List.set_cons_succ, wipeD, Bool.not_true, Bool.not_false, decide_true, decide_false, beq_self_eq_true, true_and, and_true, Nat.reduceLeDiff, toDs, toDk, toDs_sh, ↓zS_ownO, ↓zS_ii, ↓zS_bi, ↓zS_tt, ↓zS_ll, ↓zS_ss, ↓zS_isC, ↓zS_isCD, ↓zS_ms, ↓zS_c1, ↓zS_c2, ↓zS_iis, ↓zS_iii, ↓zS_ibi, ↓zS_iib, ↓zS_ibb, ↓zS_iin, ↓zS_iil, ↓zS_iit, ↓zS_iid, ↓zS_isI, ↓zS_isb, ↓zS_isn, ↓zS_isl, ↓zS_ist, ↓zS_isd, ↓zS_tus, ↓zS_tui, ↓zS_tub, ↓zS_tun, ↓zS_tul, ↓zS_tud]
  exact hq
theorem moons_ok {s t : Str} {Q : D → Prop} (hq : Q (.str t)) : S_Colours_moons [co s t] Q := by
  refine ⟨rfl, ?_⟩
  show t_Colours_moons _ [some (.sh (co s t))]
  simp only [t_Colours_moons, ↓zHd0, zHp0, ↓zGd0, ↓zGd1, ↓zGd2, ↓zGd3, ↓zGd4, zGp0, startD, ↓List.map_cons, ↓List.map_nil, ↓List.length_cons, ↓List.length_nil, Nat.reduceAdd, Nat.reduceSub, Nat.sub_self, List.replicate, ↓List.cons_append, ↓List.nil_append, List.append_nil, ↓List.getElem?_cons_zero, ↓List.getElem?_cons_succ, ↓List.set_cons_zero, ↓List.set_cons_succ, wipeD, Bool.not_true, Bool.not_false, decide_true, decide_false, beq_self_eq_true, true_and, and_true, Nat.reduceLeDiff, toDs, toDk, toDs_sh, ↓zS_ownO, ↓zS_ii, ↓zS_bi, ↓zS_tt, ↓zS_ll, ↓zS_ss, ↓zS_isC, ↓zS_isCD, ↓zS_ms, ↓zS_c1, ↓zS_c2, ↓zS_iis, ↓zS_iii, ↓zS_ibi, ↓zS_iib, ↓zS_ibb, ↓zS_iin, ↓zS_iil, ↓zS_iit, ↓zS_iid, ↓zS_isI, ↓zS_isb, ↓zS_isn, ↓zS_isl, ↓zS_ist, ↓zS_isd, ↓zS_tus, ↓zS_tui, ↓zS_tub, ↓zS_tun, ↓zS_tul, ↓zS_tud]
  exact hq
def sl (x : Str) (k : Nat) : Str := ⟨(cut x.cps.toList none (some (k : Int))).toArray⟩
theorem sl_tl {x : Str} {k : Nat} : (sl x k).cps.toList = cut x.cps.toList none (some (k : Int)) := rfl
theorem sl_len {x : Str} {k : Nat} : (sl x k).length ≤ x.length := by
  rw [← len_toList, sl_tl, ← len_toList (x := x)]
  unfold cut
  rw [List.length_take, List.length_drop]
  omega
theorem sl_mem {x : Str} {k c : Nat} (h : c ∈ (sl x k).cps.toList) : c ∈ x.cps.toList := by
  rw [sl_tl] at h
  unfold cut at h
  exact List.mem_of_mem_drop (List.mem_of_mem_take h)
def srC (x : Str) (k : Nat) : Prop := x.length % k = 0 ∧ x = repS (sl x k) (x.length / k)
instance (x : Str) (k : Nat) : Decidable (srC x k) := by unfold srC; infer_instance
def srO (x : Str) : Option D := (List.range (x.length - 1)).findSome? fun k => if srC x (k + 1) then some (.str (sl x (k + 1))) else none
def srD (x : Str) : D := match srO x with
  | some v => v
  | none => .str x
theorem sok_of {x y : Str} (h : OkC x) (hm : ∀ c ∈ y.cps.toList, c ∈ x.cps.toList) : PyData.strOk y = true := by
  unfold PyData.strOk
  rw [← Array.all_toList, List.all_eq_true]
  intro c hc
  have := Bool.and_eq_true_iff.mp (h.le c (hm c hc))
  have h1 := of_decide_eq_true this.1
  have h2 := of_decide_eq_true this.2
  exact decide_eq_true (by omega)
theorem sr_str {x : Str} (h : OkC x) : ∃ y : Str, srD x = .str y ∧ PyData.strOk y = true := by
  unfold srD
  cases e : srO x with
  | none => exact ⟨x, rfl, sok_of h fun _ z => z⟩
  | some v =>
    obtain ⟨k, hk, e⟩ := List.exists_of_findSome?_eq_some e
    split at e
    · injection e with e
      exact ⟨sl x (k + 1), e.symm, sok_of h fun c hc => sl_mem hc⟩
    · exact absurd e (by simp)
theorem short_ok {x : Str} {Q : D → Prop} (h : OkC x) (hq : Q (srD x)) : S_shortest_round [.str x] Q := by
  have x0 := h.l0
  have x1 := h.l1
  refine ⟨rfl, ?_⟩
  show t_shortest_round _ [some (.sh (.str x)), none]
  simp only [t_shortest_round, ↓zHd0, zHp0, ↓zGd0, ↓zGd1, ↓zGd2, ↓zGd3, ↓zGd4, zGp0, startD, ↓List.map_cons, ↓List.map_nil, ↓List.length_cons, ↓List.length_nil, Nat.reduceAdd, Nat.reduceSub, Nat.sub_self, List.replicate, ↓List.cons_append, ↓List.nil_append, List.append_nil, ↓List.getElem?_cons_zero, ↓List.getElem?_cons_succ, ↓List.set_cons_zero, ↓List.set_cons_succ, wipeD, Bool.not_true, Bool.not_false, decide_true, decide_false, beq_self_eq_true, true_and, and_true, Nat.reduceLeDiff, toDs, toDk, toDs_sh, ↓zS_ownO, ↓zS_ii, ↓zS_bi, ↓zS_tt, ↓zS_ll, ↓zS_ss, ↓zS_isC, ↓zS_isCD, ↓zS_ms, ↓zS_c1, ↓zS_c2, ↓zS_iis, ↓zS_iii, ↓zS_ibi, ↓zS_iib, ↓zS_ibb, ↓zS_iin, ↓zS_iil, ↓zS_iit, ↓zS_iid, ↓zS_isI, ↓zS_isb, ↓zS_isn, ↓zS_isl, ↓zS_ist, ↓zS_isd, ↓zS_tus, ↓zS_tui, ↓zS_tub, ↓zS_tun, ↓zS_tul, ↓zS_tud]
  refine ⟨sz_w (by omega), ⟨by omega, by omega, by omega, by omega⟩, ?_⟩
  rw [show ((x.length : Int) - 1).toNat = x.length - 1 by omega, ups_map]
  refine for_find (fun δ => ∃ o, δ = [some (.sh (.str x)), o]) (fun k => if srC x (k + 1) then some (.str (sl x (k + 1))) else none) (fun k : Nat => .int (1 + (k : Int))) (List.range (x.length - 1)) (fun k hk δ hI K h1 h2 => ?_) (fun v z => ?_) (fun z δ hI => ?_) _ ⟨_, rfl⟩
  · obtain ⟨o, rfl⟩ := hI
    have hk := List.mem_range.mp hk
    rw [show (1 : Int) + (k : Int) = ((k + 1 : Nat) : Int) by omega]
    have nx : ∀ {o}, ¬ srC x (k + 1) → K [some (.sh (.str x)), o] := fun c => h1 (if_neg c) _ ⟨_, rfl⟩
    simp only [b_shortest_round_1, ↓zHd0, zHp0, ↓zGd0, ↓zGd1, ↓zGd2, ↓zGd3, ↓zGd4, zGp0, startD, ↓List.map_cons, ↓List.map_nil, ↓List.length_cons, ↓List.length_nil, Nat.reduceAdd, Nat.reduceSub, Nat.sub_self, List.replicate, ↓List.cons_append, ↓List.nil_append, List.append_nil, ↓List.getElem?_cons_zero, ↓List.getElem?_cons_succ, ↓List.set_cons_zero, ↓List.set_cons_succ, wipeD, Bool.not_true, Bool.not_false, decide_true, decide_false, beq_self_eq_true, true_and, and_true, Nat.reduceLeDiff, toDs, toDk, toDs_sh, ↓zS_ownO, ↓zS_ii, ↓zS_bi, ↓zS_tt, ↓zS_ll, ↓zS_ss, ↓zS_isC, ↓zS_isCD, ↓zS_ms, ↓zS_c1, ↓zS_c2, ↓zS_iis, ↓zS_iii, ↓zS_ibi, ↓zS_iib, ↓zS_ibb, ↓zS_iin, ↓zS_iil, ↓zS_iit, ↓zS_iid, ↓zS_isI, ↓zS_isb, ↓zS_isn, ↓zS_isl, ↓zS_ist, ↓zS_isd, ↓zS_tus, ↓zS_tui, ↓zS_tub, ↓zS_tun, ↓zS_tul, ↓zS_tud]
    refine ⟨sz_w (by omega), by omega, ?_⟩
    by_cases c : x.length % (k + 1) = 0
    · rw [decide_eq_true (by omega)]
      simp only [↓zHd0, zHp0, ↓zGd0, ↓zGd1, ↓zGd2, ↓zGd3, ↓zGd4, zGp0, startD, ↓List.map_cons, ↓List.map_nil, ↓List.length_cons, ↓List.length_nil, Nat.reduceAdd, Nat.reduceSub, Nat.sub_self, List.replicate, ↓List.cons_append, ↓List.nil_append, List.append_nil, ↓List.getElem?_cons_zero, ↓List.getElem?_cons_succ, ↓List.set_cons_zero, ↓List.set_cons_succ, wipeD, Bool.not_true, Bool.not_false, decide_true, decide_false, beq_self_eq_true, true_and, and_true, Nat.reduceLeDiff, toDs, toDk, toDs_sh, ↓zS_ownO, ↓zS_ii, ↓zS_bi, ↓zS_tt, ↓zS_ll, ↓zS_ss, ↓zS_isC, ↓zS_isCD, ↓zS_ms, ↓zS_c1, ↓zS_c2, ↓zS_iis, ↓zS_iii, ↓zS_ibi, ↓zS_iib, ↓zS_ibb, ↓zS_iin, ↓zS_iil, ↓zS_iit, ↓zS_iid, ↓zS_isI, ↓zS_isb, ↓zS_isn, ↓zS_isl, ↓zS_ist, ↓zS_isd, ↓zS_tus, ↓zS_tui, ↓zS_tub, ↓zS_tun, ↓zS_tul, ↓zS_tud]
      have sl1 := sl_len (x := x) (k := k + 1)
      refine ⟨sz_w (by omega), sz_w (by omega), ⟨by omega, ?_⟩, ⟨Int.ediv_nonneg (by omega) (by omega), ?_, ?_⟩, ?_⟩
      · have : (((k + 1 : Nat) : Int)).natAbs.log2 < 30 := (Nat.log2_lt (by omega)).mpr (by omega)
        omega
      · have : (x.length : Int) / ((k + 1 : Nat) : Int) ≤ x.length := Int.ediv_le_self _ (by omega)
        omega
      · exact Nat.le_trans sl1 x1
      · have e : ((x.length : Int) / ((k + 1 : Nat) : Int)).toNat = x.length / (k + 1) := by rw [← Int.natCast_ediv, Int.toNat_natCast]
        rw [e]
        by_cases c2 : x = repS (sl x (k + 1)) (x.length / (k + 1))
        · have c3 : srC x (k + 1) := ⟨c, c2⟩
          refine (iteS_pos c2).mpr ?_
          simp only [↓zHd0, zHp0, ↓zGd0, ↓zGd1, ↓zGd2, ↓zGd3, ↓zGd4, zGp0, startD, ↓List.map_cons, ↓List.map_nil, ↓List.length_cons, ↓List.length_nil, Nat.reduceAdd, Nat.reduceSub, Nat.sub_self, List.replicate, ↓List.cons_append, ↓List.nil_append, List.append_nil, ↓List.getElem?_cons_zero, ↓List.getElem?_cons_succ, ↓List.set_cons_zero, ↓List.set_cons_succ, wipeD, Bool.not_true, Bool.not_false, decide_true, decide_false, beq_self_eq_true, true_and, and_true, Nat.reduceLeDiff, toDs, toDk, toDs_sh, ↓zS_ownO, ↓zS_ii, ↓zS_bi, ↓zS_tt, ↓zS_ll, ↓zS_ss, ↓zS_isC, ↓zS_isCD, ↓zS_ms, ↓zS_c1, ↓zS_c2, ↓zS_iis, ↓zS_iii, ↓zS_ibi, ↓zS_iib, ↓zS_ibb, ↓zS_iin, ↓zS_iil, ↓zS_iit, ↓zS_iid, ↓zS_isI, ↓zS_isb, ↓zS_isn, ↓zS_isl, ↓zS_ist, ↓zS_isd, ↓zS_tus, ↓zS_tui, ↓zS_tub, ↓zS_tun, ↓zS_tul, ↓zS_tud]
          exact ⟨sz_w (by omega), h2 _ (if_pos c3)⟩
        · refine (iteS_neg c2).mpr ?_
          simp only [↓zHd0, zHp0, ↓zGd0, ↓zGd1, ↓zGd2, ↓zGd3, ↓zGd4, zGp0, startD, ↓List.map_cons, ↓List.map_nil, ↓List.length_cons, ↓List.length_nil, Nat.reduceAdd, Nat.reduceSub, Nat.sub_self, List.replicate, ↓List.cons_append, ↓List.nil_append, List.append_nil, ↓List.getElem?_cons_zero, ↓List.getElem?_cons_succ, ↓List.set_cons_zero, ↓List.set_cons_succ, wipeD, Bool.not_true, Bool.not_false, decide_true, decide_false, beq_self_eq_true, true_and, and_true, Nat.reduceLeDiff, toDs, toDk, toDs_sh, ↓zS_ownO, ↓zS_ii, ↓zS_bi, ↓zS_tt, ↓zS_ll, ↓zS_ss, ↓zS_isC, ↓zS_isCD, ↓zS_ms, ↓zS_c1, ↓zS_c2, ↓zS_iis, ↓zS_iii, ↓zS_ibi, ↓zS_iib, ↓zS_ibb, ↓zS_iin, ↓zS_iil, ↓zS_iit, ↓zS_iid, ↓zS_isI, ↓zS_isb, ↓zS_isn, ↓zS_isl, ↓zS_ist, ↓zS_isd, ↓zS_tus, ↓zS_tui, ↓zS_tub, ↓zS_tun, ↓zS_tul, ↓zS_tud]
          exact nx fun z => c2 z.2
    · rw [decide_eq_false (by omega)]
      simp only [↓zHd0, zHp0, ↓zGd0, ↓zGd1, ↓zGd2, ↓zGd3, ↓zGd4, zGp0, startD, ↓List.map_cons, ↓List.map_nil, ↓List.length_cons, ↓List.length_nil, Nat.reduceAdd, Nat.reduceSub, Nat.sub_self, List.replicate, ↓List.cons_append, ↓List.nil_append, List.append_nil, ↓List.getElem?_cons_zero, ↓List.getElem?_cons_succ, ↓List.set_cons_zero, ↓List.set_cons_succ, wipeD, Bool.not_true, Bool.not_false, decide_true, decide_false, beq_self_eq_true, true_and, and_true, Nat.reduceLeDiff, toDs, toDk, toDs_sh, ↓zS_ownO, ↓zS_ii, ↓zS_bi, ↓zS_tt, ↓zS_ll, ↓zS_ss, ↓zS_isC, ↓zS_isCD, ↓zS_ms, ↓zS_c1, ↓zS_c2, ↓zS_iis, ↓zS_iii, ↓zS_ibi, ↓zS_iib, ↓zS_ibb, ↓zS_iin, ↓zS_iil, ↓zS_iit, ↓zS_iid, ↓zS_isI, ↓zS_isb, ↓zS_isn, ↓zS_isl, ↓zS_ist, ↓zS_isd, ↓zS_tus, ↓zS_tui, ↓zS_tub, ↓zS_tun, ↓zS_tul, ↓zS_tud]
      exact nx fun z => c z.1
  · have : srO x = some v := z
    unfold srD at hq
    rw [this] at hq
    exact hq
  · obtain ⟨o, rfl⟩ := hI
    simp only [shortest_round_at_4, ↓zHd0, zHp0, ↓zGd0, ↓zGd1, ↓zGd2, ↓zGd3, ↓zGd4, zGp0, startD, ↓List.map_cons, ↓List.map_nil, ↓List.length_cons, ↓List.length_nil, Nat.reduceAdd, Nat.reduceSub, Nat.sub_self, List.replicate, ↓List.cons_append, ↓List.nil_append, List.append_nil, ↓List.getElem?_cons_zero, ↓List.getElem?_cons_succ, ↓List.set_cons_zero, ↓List.set_cons_succ, wipeD, Bool.not_true, Bool.not_false, decide_true, decide_false, beq_self_eq_true, true_and, and_true, Nat.reduceLeDiff, toDs, toDk, toDs_sh, ↓zS_ownO, ↓zS_ii, ↓zS_bi, ↓zS_tt, ↓zS_ll, ↓zS_ss, ↓zS_isC, ↓zS_isCD, ↓zS_ms, ↓zS_c1, ↓zS_c2, ↓zS_iis, ↓zS_iii, ↓zS_ibi, ↓zS_iib, ↓zS_ibb, ↓zS_iin, ↓zS_iil, ↓zS_iit, ↓zS_iid, ↓zS_isI, ↓zS_isb, ↓zS_isn, ↓zS_isl, ↓zS_ist, ↓zS_isd, ↓zS_tus, ↓zS_tui, ↓zS_tub, ↓zS_tun, ↓zS_tul, ↓zS_tud]
    have : srO x = none := z
    unfold srD at hq
    rw [this] at hq
    exact hq
def PerF (f : Nat → Nat) (d : Nat) : Prop := ∀ k, f (k + d) = f k
theorem PerF.sub {f : Nat → Nat} {a b : Nat} (ha : PerF f a) (hb : PerF f b) (h : b ≤ a) : PerF f (a - b) := fun k => by
  have h1 := hb (k + (a - b))
  rw [show k + (a - b) + b = k + a by omega, ha k] at h1
  exact h1.symm
theorem PerF.gcd {f : Nat → Nat} : ∀ (n a b : Nat), a + b ≤ n → PerF f a → PerF f b → PerF f (Nat.gcd a b)
  | 0, a, b, h, ha, hb => by
    have e1 : a = 0 := by omega
    subst e1
    rw [Nat.gcd_zero_left]
    exact hb
  | n + 1, a, b, h, ha, hb => by
    by_cases a0 : a = 0
    · subst a0
      rw [Nat.gcd_zero_left]
      exact hb
    · by_cases b0 : b = 0
      · subst b0
        rw [Nat.gcd_zero_right]
        exact ha
      · by_cases c : b ≤ a
        · have := PerF.gcd n (a - b) b (by omega) (ha.sub hb c) hb
          rwa [Nat.gcd_sub_self_left c] at this
        · have := PerF.gcd n a (b - a) (by omega) ha (hb.sub ha (by omega))
          rwa [Nat.gcd_sub_self_right (by omega)] at this
theorem PerF.mul {f : Nat → Nat} {a : Nat} (ha : PerF f a) : ∀ (q k : Nat), f (k + q * a) = f k
  | 0, k => by rw [Nat.zero_mul, Nat.add_zero]
  | q + 1, k => by rw [Nat.succ_mul, ← Nat.add_assoc, ha, PerF.mul ha q k]
/-- two rows that agree on as many places as both periods have, agree everywhere -/
theorem per_all {f g : Nat → Nat} {p q N : Nat} (hp : PerF f p) (hq : PerF g q) (p0 : 0 < p) (q0 : 0 < q) (hN : p + q ≤ N) (h : ∀ k, k < N → f k = g k) : ∀ n, f n = g n := by
  intro n
  induction n using Nat.strongRecOn with
  | ind n ih =>
    by_cases c : n < N
    · exact h n c
    · have e1 : f n = f (n - p) := by have := hp (n - p); rwa [show n - p + p = n by omega] at this
      have e2 : g n = g (n - q) := by have := hq (n - q); rwa [show n - q + q = n by omega] at this
      have e3 : g (n - p) = g (n - p - q) := by have := hq (n - p - q); rwa [show n - p - q + q = n - p by omega] at this
      have e4 : f (n - q) = f (n - q - p) := by have := hp (n - q - p); rwa [show n - q - p + p = n - q by omega] at this
      have i1 := ih (n - p) (by omega)
      have i2 := ih (n - q) (by omega)
      have i3 := ih (n - p - q) (by omega)
      rw [e1, i1, e3, ← i3, show n - p - q = n - q - p by omega, ← e4, i2, ← e2]
theorem chr_per {x : Str} : PerF (chr x) x.length := fun k => by
  unfold chr
  rw [Nat.add_mod_right]
theorem chr_lt {x : Str} {k : Nat} (h : k < x.length) : x.cps.toList[k]? = some (chr x k) := by
  have hl : k < x.cps.toList.length := by rw [len_toList]; exact h
  unfold chr
  rw [Nat.mod_eq_of_lt h, List.getElem?_eq_getElem hl, List.getD_eq_getElem?_getD, List.getElem?_eq_getElem hl]
  rfl
theorem flat_get {α : Type} (l : List α) : ∀ (m i : Nat), i < m * l.length → (List.replicate m l).flatten[i]? = l[i % l.length]?
  | 0, i, h => by omega
  | m + 1, i, h => by
    rw [List.replicate_succ, List.flatten_cons]
    by_cases c : i < l.length
    · rw [List.getElem?_append_left c, Nat.mod_eq_of_lt c]
    · have c := Nat.le_of_not_lt c
      rw [Nat.succ_mul] at h
      rw [List.getElem?_append_right c, flat_get l m (i - l.length) (by omega), ← Nat.mod_eq_sub_mod c]
theorem sl_take {x : Str} {s : Nat} (h : s ≤ x.length) : (sl x s).cps.toList = x.cps.toList.take s := by
  have hl : s ≤ x.cps.toList.length := by rw [len_toList]; exact h
  rw [sl_tl]
  unfold cut
  rw [HT.sIx_nat, Nat.min_eq_left hl]
  rfl
theorem sl_len2 {x : Str} {s : Nat} (h : s ≤ x.length) : (sl x s).length = s := by
  rw [← len_toList, sl_take h, List.length_take, len_toList, Nat.min_eq_left h]
theorem rep_tl {u : Str} {m : Nat} : (repS u m).cps.toList = (List.replicate m u.cps.toList).flatten := rfl
theorem chr_mod {x : Str} (hx : 0 < x.length) (k : Nat) : x.cps.toList[k % x.length]? = some (chr x k) := by
  have hl : k % x.length < x.cps.toList.length := by rw [len_toList]; exact Nat.mod_lt _ hx
  unfold chr
  rw [List.getD_eq_getElem?_getD, List.getElem?_eq_getElem hl]
  rfl
theorem srC_per {x : Str} {s : Nat} (s0 : 0 < s) (hs : s ≤ x.length) (h : srC x s) : PerF (chr x) s := by
  obtain ⟨h1, h2⟩ := h
  have hx : 0 < x.length := by omega
  have hm : x.length = x.length / s * s := (Nat.div_mul_cancel (Nat.dvd_of_mod_eq_zero h1)).symm
  have key : ∀ k, x.cps.toList[k % x.length]? = x.cps.toList[k % s]? := fun k => by
    have hk := Nat.mod_lt k hx
    have hks := Nat.mod_lt k s0
    have e : x.cps.toList[k % x.length]? = (repS (sl x s) (x.length / s)).cps.toList[k % x.length]? := by rw [← h2]
    have hl : (sl x s).cps.toList.length = s := by rw [len_toList, sl_len2 hs]
    rw [e, rep_tl, flat_get _ _ _ (by rw [hl, ← hm]; exact hk), hl, Nat.mod_mod_of_dvd _ (Nat.dvd_of_mod_eq_zero h1), sl_take hs, List.getElem?_take_of_lt hks]
  intro k
  have a := chr_mod hx k
  have b := chr_mod hx (k + s)
  rw [key] at a b
  rw [Nat.add_mod_right] at b
  exact Option.some.inj (b.symm.trans a)
theorem per_srC {x : Str} {s : Nat} (s0 : 0 < s) (hs : s ≤ x.length) (hd : x.length % s = 0) (h : PerF (chr x) s) : srC x s := by
  refine ⟨hd, str_ext (List.ext_getElem? fun i => ?_)⟩
  have hx : 0 < x.length := by omega
  have hm : x.length / s * s = x.length := Nat.div_mul_cancel (Nat.dvd_of_mod_eq_zero hd)
  have hl : (sl x s).cps.toList.length = s := by rw [len_toList, sl_len2 hs]
  by_cases c : i < x.length
  · rw [rep_tl, flat_get _ _ _ (by rw [hl, hm]; exact c), hl, sl_take hs, List.getElem?_take_of_lt (Nat.mod_lt _ s0), chr_lt c, chr_lt (Nat.lt_of_lt_of_le (Nat.mod_lt i s0) hs)]
    congr 1
    have e := h.mul (i / s) (i % s)
    rw [show i % s + i / s * s = i by rw [Nat.mul_comm]; exact Nat.mod_add_div i s] at e
    exact e
  · rw [List.getElem?_eq_none (by rw [len_toList]; omega), List.getElem?_eq_none]
    rw [rep_tl, List.length_flatten, List.map_replicate, List.sum_replicate_nat, hl, hm]
    omega
theorem find_first {β : Type} {f : Nat → Option β} : ∀ {n : Nat} {v : β}, (List.range n).findSome? f = some v → ∃ k, k < n ∧ f k = some v ∧ ∀ j, j < k → f j = none
  | 0, v, h => by cases h
  | n + 1, v, h => by
    rw [List.range_succ, List.findSome?_append] at h
    cases e : (List.range n).findSome? f with
    | some w =>
      rw [e, Option.some_or] at h
      obtain ⟨k, a, b, c⟩ := find_first e
      exact ⟨k, by omega, by rw [b, h], c⟩
    | none =>
      rw [e, Option.none_or, List.findSome?_cons, List.findSome?_nil] at h
      refine ⟨n, by omega, ?_, fun j hj => List.findSome?_eq_none_iff.mp e j (List.mem_range.mpr hj)⟩
      cases e2 : f n with
      | none => rw [e2] at h; cases h
      | some w => rw [e2] at h; exact h
structure Root (x u : Str) : Prop where
  u0 : 0 < u.length
  u1 : u.length ≤ x.length
  pr : PerF (chr x) u.length
  at_ : ∀ k, k < u.length → u.cps.toList[k]? = some (chr x k)
  le : ∀ d, 0 < d → PerF (chr x) d → u.length ≤ d
theorem root_le {x : Str} (hx : 0 < x.length) {d : Nat} (d0 : 0 < d) (hp : PerF (chr x) d) {N : Nat} (hN : ∀ g, 0 < g → g < N → g ≤ x.length → ¬ srC x g) (hNx : N ≤ x.length) : N ≤ d := by
  refine Classical.byContradiction fun c => ?_
  have hg := PerF.gcd _ d x.length (Nat.le_refl _) hp chr_per
  have g0 : 0 < Nat.gcd d x.length := Nat.gcd_pos_of_pos_left _ d0
  have g1 : Nat.gcd d x.length ≤ d := Nat.gcd_le_left _ d0
  have g2 : x.length % Nat.gcd d x.length = 0 := Nat.mod_eq_zero_of_dvd (Nat.gcd_dvd_right _ _)
  exact hN _ g0 (by omega) (by omega) (per_srC g0 (by omega) g2 hg)
theorem root_ok {x : Str} (hx : 0 < x.length) : ∃ u : Str, srD x = .str u ∧ Root x u := by
  unfold srD
  cases e : srO x with
  | none =>
    refine ⟨x, rfl, hx, Nat.le_refl _, chr_per, fun k hk => chr_lt hk, fun d d0 hp => root_le hx d0 hp (N := x.length) (fun g g0 g1 _ hc => ?_) (Nat.le_refl _)⟩
    have := List.findSome?_eq_none_iff.mp e (g - 1) (List.mem_range.mpr (by omega))
    rw [show g - 1 + 1 = g by omega, if_pos hc] at this
    cases this
  | some v =>
    obtain ⟨k, hk, hv, hj⟩ := find_first e
    by_cases c : srC x (k + 1)
    · rw [if_pos c] at hv
      injection hv with hv
      subst hv
      have hs : k + 1 ≤ x.length := by omega
      have hl := sl_len2 hs
      refine ⟨sl x (k + 1), rfl, by omega, by omega, by rw [hl]; exact srC_per (by omega) hs c, fun i hi => ?_, fun d d0 hp => ?_⟩
      · rw [hl] at hi
        rw [sl_take hs, List.getElem?_take_of_lt hi, chr_lt (by omega)]
      · rw [hl]
        refine root_le hx d0 hp (fun g g0 g1 _ hc => ?_) hs
        have := hj (g - 1) (by omega)
        rw [show g - 1 + 1 = g by omega, if_pos hc] at this
        cases this
    · rw [if_neg c] at hv
      cases hv
theorem root_same {x y u v : Str} (hu : Root x u) (hv : Root y v) : u = v ↔ ∀ k, chr x k = chr y k := by
  constructor
  · rintro rfl k
    have e1 := hu.pr.mul (k / u.length) (k % u.length)
    have e2 := hv.pr.mul (k / u.length) (k % u.length)
    rw [show k % u.length + k / u.length * u.length = k by rw [Nat.mul_comm]; exact Nat.mod_add_div k _] at e1 e2
    have h := Nat.mod_lt k hu.u0
    rw [e1, e2]
    exact Option.some.inj ((hu.at_ _ h).symm.trans (hv.at_ _ h))
  · intro h
    have hf : chr x = chr y := funext h
    have l1 := hu.le _ hv.u0 (by rw [hf]; exact hv.pr)
    have l2 := hv.le _ hu.u0 (by rw [← hf]; exact hu.pr)
    have l : u.length = v.length := by omega
    refine str_ext (List.ext_getElem? fun i => ?_)
    by_cases c : i < u.length
    · rw [hu.at_ i c, hv.at_ i (by omega), h]
    · rw [List.getElem?_eq_none (by rw [len_toList]; omega), List.getElem?_eq_none (by rw [len_toList]; omega)]
def sameB (x y : Str) : Bool := decide ((List.range 60).map (chr x) = (List.range 60).map (chr y))
theorem same_root {x y : Str} (hx : 0 < x.length) (hy : 0 < y.length) (h : x.length + y.length ≤ 60) : (srD x = srD y) ↔ sameB x y = true := by
  obtain ⟨u, eu, hu⟩ := root_ok hx
  obtain ⟨v, ev, hv⟩ := root_ok hy
  have e : srD x = srD y ↔ u = v := by
    rw [eu, ev]
    exact ⟨fun z => by injection z, fun z => by rw [z]⟩
  rw [e, root_same hu hv]
  unfold sameB
  rw [decide_eq_true_iff, List.map_inj_left]
  constructor
  · exact fun z k _ => z k
  · exact fun z => per_all chr_per chr_per hx hy h fun k hk => z k (List.mem_range.mpr hk)
section
variable {s t s' t' : Str} {Q : D → Prop} {d a b : D} {Wx : XW}
def colV : D → Bool
  | .str x => decide (x ≠ Str.ofString "") && x.cps.toList.all isLet
  | _ => false
theorem in_let {c : Nat} : decide (c ∈ x_LETTERS.cps.toList) = isLet c := by
  rw [Bool.eq_iff_iff, decide_eq_true_iff]
  constructor
  · intro h
    have : ∀ c ∈ x_LETTERS.cps.toList, isLet c = true := by
      have : x_LETTERS.cps.toList.all isLet = true := by decide +kernel
      exact List.all_eq_true.mp this
    exact this c h
  · exact let_in
theorem cols_any (h : okX d = true) (hq : Q (.bl (colV d))) : S_are_colours [d] Q := by
  have hk := okX_k h
  refine ⟨rfl, ?_⟩
  show t_are_colours _ [some (.sh d), none]
  simp only [t_are_colours, ↓zHd0, zHp0, ↓zGd0, ↓zGd1, ↓zGd2, ↓zGd3, ↓zGd4, zGp0, startD, ↓List.map_cons, ↓List.map_nil, ↓List.length_cons, ↓List.length_nil, Nat.reduceAdd, Nat.reduceSub, Nat.sub_self, List.replicate, ↓List.cons_append, ↓List.nil_append, List.append_nil, ↓List.getElem?_cons_zero, ↓List.getElem?_cons_succ, ↓List.set_cons_zero, ↓List.set_cons_succ, wipeD, Bool.not_true, Bool.not_false, decide_true, decide_false, beq_self_eq_true, true_and, and_true, Nat.reduceLeDiff, toDs, toDk, toDs_sh, ↓zS_ownO, ↓zS_ii, ↓zS_bi, ↓zS_tt, ↓zS_ll, ↓zS_ss, ↓zS_isC, ↓zS_isCD, ↓zS_ms, ↓zS_c1, ↓zS_c2, ↓zS_iis, ↓zS_iii, ↓zS_ibi, ↓zS_iib, ↓zS_ibb, ↓zS_iin, ↓zS_iil, ↓zS_iit, ↓zS_iid, ↓zS_isI, ↓zS_isb, ↓zS_isn, ↓zS_isl, ↓zS_ist, ↓zS_isd, ↓zS_tus, ↓zS_tui, ↓zS_tub, ↓zS_tun, ↓zS_tul, ↓zS_tud]
  cases d with
  | obj => cases hk
  | bag => cases hk
  | ktup => cases hk
  | str x =>
    have hl : x.length ≤ 1000 := of_decide_eq_true hk
    simp only [↓zHd0, zHp0, ↓zGd0, ↓zGd1, ↓zGd2, ↓zGd3, ↓zGd4, zGp0, startD, ↓List.map_cons, ↓List.map_nil, ↓List.length_cons, ↓List.length_nil, Nat.reduceAdd, Nat.reduceSub, Nat.sub_self, List.replicate, ↓List.cons_append, ↓List.nil_append, List.append_nil, ↓List.getElem?_cons_zero, ↓List.getElem?_cons_succ, ↓List.set_cons_zero, ↓List.set_cons_succ, wipeD, Bool.not_true, Bool.not_false, decide_true, decide_false, beq_self_eq_true, true_and, and_true, Nat.reduceLeDiff, toDs, toDk, toDs_sh, ↓zS_ownO, ↓zS_ii, ↓zS_bi, ↓zS_tt, ↓zS_ll, ↓zS_ss, ↓zS_isC, ↓zS_isCD, ↓zS_ms, ↓zS_c1, ↓zS_c2, ↓zS_iis, ↓zS_iii, ↓zS_ibi, ↓zS_iib, ↓zS_ibb, ↓zS_iin, ↓zS_iil, ↓zS_iit, ↓zS_iid, ↓zS_isI, ↓zS_isb, ↓zS_isn, ↓zS_isl, ↓zS_ist, ↓zS_isd, ↓zS_tus, ↓zS_tui, ↓zS_tub, ↓zS_tun, ↓zS_tul, ↓zS_tud]
    by_cases e : x = Str.ofString ""
    · subst e
      rw [decide_eq_true rfl]
      simp only [↓zHd0, zHp0, ↓zGd0, ↓zGd1, ↓zGd2, ↓zGd3, ↓zGd4, zGp0, startD, ↓List.map_cons, ↓List.map_nil, ↓List.length_cons, ↓List.length_nil, Nat.reduceAdd, Nat.reduceSub, Nat.sub_self, List.replicate, ↓List.cons_append, ↓List.nil_append, List.append_nil, ↓List.getElem?_cons_zero, ↓List.getElem?_cons_succ, ↓List.set_cons_zero, ↓List.set_cons_succ, wipeD, Bool.not_true, Bool.not_false, decide_true, decide_false, beq_self_eq_true, true_and, and_true, Nat.reduceLeDiff, toDs, toDk, toDs_sh, ↓zS_ownO, ↓zS_ii, ↓zS_bi, ↓zS_tt, ↓zS_ll, ↓zS_ss, ↓zS_isC, ↓zS_isCD, ↓zS_ms, ↓zS_c1, ↓zS_c2, ↓zS_iis, ↓zS_iii, ↓zS_ibi, ↓zS_iib, ↓zS_ibb, ↓zS_iin, ↓zS_iil, ↓zS_iit, ↓zS_iid, ↓zS_isI, ↓zS_isb, ↓zS_isn, ↓zS_isl, ↓zS_ist, ↓zS_isd, ↓zS_tus, ↓zS_tui, ↓zS_tub, ↓zS_tun, ↓zS_tul, ↓zS_tud, Bool.not_true]
      exact hq
    · have hq : Q (.bl (decide (x ≠ Str.ofString "") && x.cps.toList.all isLet)) := hq
      rw [decide_eq_true e, Bool.true_and] at hq
      rw [decide_eq_false e]
      simp only [↓zHd0, zHp0, ↓zGd0, ↓zGd1, ↓zGd2, ↓zGd3, ↓zGd4, zGp0, startD, ↓List.map_cons, ↓List.map_nil, ↓List.length_cons, ↓List.length_nil, Nat.reduceAdd, Nat.reduceSub, Nat.sub_self, List.replicate, ↓List.cons_append, ↓List.nil_append, List.append_nil, ↓List.getElem?_cons_zero, ↓List.getElem?_cons_succ, ↓List.set_cons_zero, ↓List.set_cons_succ, wipeD, Bool.not_true, Bool.not_false, decide_true, decide_false, beq_self_eq_true, true_and, and_true, Nat.reduceLeDiff, toDs, toDk, toDs_sh, ↓zS_ownO, ↓zS_ii, ↓zS_bi, ↓zS_tt, ↓zS_ll, ↓zS_ss, ↓zS_isC, ↓zS_isCD, ↓zS_ms, ↓zS_c1, ↓zS_c2, ↓zS_iis, ↓zS_iii, ↓zS_ibi, ↓zS_iib, ↓zS_ibb, ↓zS_iin, ↓zS_iil, ↓zS_iit, ↓zS_iid, ↓zS_isI, ↓zS_isb, ↓zS_isn, ↓zS_isl, ↓zS_ist, ↓zS_isd, ↓zS_tus, ↓zS_tui, ↓zS_tub, ↓zS_tun, ↓zS_tul, ↓zS_tud, Bool.not_false]
      refine ⟨by show (chars x).length ≤ _; unfold chars; rw [List.length_map, len_toList]; exact sz_w hl, ?_⟩
      refine lc_of (fun c : Nat => .str ⟨#[c]⟩) (fun c => .bl (isLet c)) x.cps.toList [] (fun c hc R hR => ?_) ?_
      · show R (.bl (decide (c ∈ x_LETTERS.cps.toList)))
        rw [in_let]
        exact hR
      · rw [List.nil_append]
        show (match blsOf (x.cps.toList.map fun c => D.bl (isLet c)) with | some bs => Q (.bl (bs.all id)) | none => False)
        rw [bls_map]
        show Q (.bl ((x.cps.toList.map isLet).all id))
        rw [List.all_map]
        exact hq
  | _ => simp only [↓zHd0, zHp0, ↓zGd0, ↓zGd1, ↓zGd2, ↓zGd3, ↓zGd4, zGp0, startD, ↓List.map_cons, ↓List.map_nil, ↓List.length_cons, ↓List.length_nil, Nat.reduceAdd, Nat.reduceSub, Nat.sub_self, List.replicate, ↓List.cons_append, ↓List.nil_append, List.append_nil, ↓List.getElem?_cons_zero, ↓List.getElem?_cons_succ, ↓List.set_cons_zero, ↓List.set_cons_succ, wipeD, Bool.not_true, Bool.not_false, decide_true, decide_false, beq_self_eq_true, true_and, and_true, Nat.reduceLeDiff, toDs, toDk, toDs_sh, ↓zS_ownO, ↓zS_ii, ↓zS_bi, ↓zS_tt, ↓zS_ll, ↓zS_ss, ↓zS_isC, ↓zS_isCD, ↓zS_ms, ↓zS_c1, ↓zS_c2, ↓zS_iis, ↓zS_iii, ↓zS_ibi, ↓zS_iib, ↓zS_ibb, ↓zS_iin, ↓zS_iil, ↓zS_iit, ↓zS_iid, ↓zS_isI, ↓zS_isb, ↓zS_isn, ↓zS_isl, ↓zS_ist, ↓zS_isd, ↓zS_tus, ↓zS_tui, ↓zS_tub, ↓zS_tun, ↓zS_tul, ↓zS_tud]; exact hq
theorem rich_str {x : Str} (h : okX (.str x) = true) : PyData.strOk x = true := by
  have := (okX_p h).1
  rwa [rich] at this
theorem sok_one {x : Str} (h : PyData.strOk x = true) {c : Nat} (hc : c ∈ x.cps.toList) : PyData.strOk ⟨#[c]⟩ = true := by
  unfold PyData.strOk at h ⊢
  rw [← Array.all_toList, List.all_eq_true] at h ⊢
  intro z hz
  exact h z (by rw [List.mem_singleton.mp hz]; exact hc)
theorem fine_strs : ∀ {l : List Nat}, (∀ c ∈ l, PyData.strOk ⟨#[c]⟩ = true) → fineL (l.map fun c => D.str ⟨#[c]⟩) = true ∧ depL (l.map fun c => D.str ⟨#[c]⟩) = 0
  | [], _ => ⟨rfl, rfl⟩
  | c :: l, h => by
    obtain ⟨i1, i2⟩ := fine_strs (l := l) fun x hx => h x (List.mem_cons_of_mem _ hx)
    have e : D.fine (.str ⟨#[c]⟩) = true := by rw [D.fine]; exact h c List.mem_cons_self
    refine ⟨by rw [List.map_cons, fineL, e, i1]; rfl, ?_⟩
    rw [List.map_cons, depL, i2]
    rfl
theorem lt_one (a b : Nat) : ([a] : List Nat) < [b] ↔ a < b := by
  rw [List.cons_lt_cons_iff]
  simp
theorem lcols_any (h : okX d = true) (hq : Q (.bl (colV d))) : S__law_is_colours [d] Q := by
  have hk := okX_k h
  refine ⟨rfl, ?_⟩
  show t__law_is_colours _ [some (.sh d), none]
  simp only [t__law_is_colours, ↓zHd0, zHp0, ↓zGd0, ↓zGd1, ↓zGd2, ↓zGd3, ↓zGd4, zGp0, startD, ↓List.map_cons, ↓List.map_nil, ↓List.length_cons, ↓List.length_nil, Nat.reduceAdd, Nat.reduceSub, Nat.sub_self, List.replicate, ↓List.cons_append, ↓List.nil_append, List.append_nil, ↓List.getElem?_cons_zero, ↓List.getElem?_cons_succ, ↓List.set_cons_zero, ↓List.set_cons_succ, wipeD, Bool.not_true, Bool.not_false, decide_true, decide_false, beq_self_eq_true, true_and, and_true, Nat.reduceLeDiff, toDs, toDk, toDs_sh, ↓zS_ownO, ↓zS_ii, ↓zS_bi, ↓zS_tt, ↓zS_ll, ↓zS_ss, ↓zS_isC, ↓zS_isCD, ↓zS_ms, ↓zS_c1, ↓zS_c2, ↓zS_iis, ↓zS_iii, ↓zS_ibi, ↓zS_iib, ↓zS_ibb, ↓zS_iin, ↓zS_iil, ↓zS_iit, ↓zS_iid, ↓zS_isI, ↓zS_isb, ↓zS_isn, ↓zS_isl, ↓zS_ist, ↓zS_isd, ↓zS_tus, ↓zS_tui, ↓zS_tub, ↓zS_tun, ↓zS_tul, ↓zS_tud]
  cases d with
  | obj => cases hk
  | bag => cases hk
  | ktup => cases hk
  | str x =>
    have hl : x.length ≤ 1000 := of_decide_eq_true hk
    have ho := rich_str h
    simp only [↓zHd0, zHp0, ↓zGd0, ↓zGd1, ↓zGd2, ↓zGd3, ↓zGd4, zGp0, startD, ↓List.map_cons, ↓List.map_nil, ↓List.length_cons, ↓List.length_nil, Nat.reduceAdd, Nat.reduceSub, Nat.sub_self, List.replicate, ↓List.cons_append, ↓List.nil_append, List.append_nil, ↓List.getElem?_cons_zero, ↓List.getElem?_cons_succ, ↓List.set_cons_zero, ↓List.set_cons_succ, wipeD, Bool.not_true, Bool.not_false, decide_true, decide_false, beq_self_eq_true, true_and, and_true, Nat.reduceLeDiff, toDs, toDk, toDs_sh, ↓zS_ownO, ↓zS_ii, ↓zS_bi, ↓zS_tt, ↓zS_ll, ↓zS_ss, ↓zS_isC, ↓zS_isCD, ↓zS_ms, ↓zS_c1, ↓zS_c2, ↓zS_iis, ↓zS_iii, ↓zS_ibi, ↓zS_iib, ↓zS_ibb, ↓zS_iin, ↓zS_iil, ↓zS_iit, ↓zS_iid, ↓zS_isI, ↓zS_isb, ↓zS_isn, ↓zS_isl, ↓zS_ist, ↓zS_isd, ↓zS_tus, ↓zS_tui, ↓zS_tub, ↓zS_tun, ↓zS_tul, ↓zS_tud]
    by_cases e : x = Str.ofString ""
    · subst e
      rw [decide_eq_true rfl]
      simp only [↓zHd0, zHp0, ↓zGd0, ↓zGd1, ↓zGd2, ↓zGd3, ↓zGd4, zGp0, startD, ↓List.map_cons, ↓List.map_nil, ↓List.length_cons, ↓List.length_nil, Nat.reduceAdd, Nat.reduceSub, Nat.sub_self, List.replicate, ↓List.cons_append, ↓List.nil_append, List.append_nil, ↓List.getElem?_cons_zero, ↓List.getElem?_cons_succ, ↓List.set_cons_zero, ↓List.set_cons_succ, wipeD, Bool.not_true, Bool.not_false, decide_true, decide_false, beq_self_eq_true, true_and, and_true, Nat.reduceLeDiff, toDs, toDk, toDs_sh, ↓zS_ownO, ↓zS_ii, ↓zS_bi, ↓zS_tt, ↓zS_ll, ↓zS_ss, ↓zS_isC, ↓zS_isCD, ↓zS_ms, ↓zS_c1, ↓zS_c2, ↓zS_iis, ↓zS_iii, ↓zS_ibi, ↓zS_iib, ↓zS_ibb, ↓zS_iin, ↓zS_iil, ↓zS_iit, ↓zS_iid, ↓zS_isI, ↓zS_isb, ↓zS_isn, ↓zS_isl, ↓zS_ist, ↓zS_isd, ↓zS_tus, ↓zS_tui, ↓zS_tub, ↓zS_tun, ↓zS_tul, ↓zS_tud]
      exact hq
    · have hq : Q (.bl (decide (x ≠ Str.ofString "") && x.cps.toList.all isLet)) := hq
      rw [decide_eq_true e, Bool.true_and] at hq
      rw [decide_eq_false e]
      simp only [↓zHd0, zHp0, ↓zGd0, ↓zGd1, ↓zGd2, ↓zGd3, ↓zGd4, zGp0, startD, ↓List.map_cons, ↓List.map_nil, ↓List.length_cons, ↓List.length_nil, Nat.reduceAdd, Nat.reduceSub, Nat.sub_self, List.replicate, ↓List.cons_append, ↓List.nil_append, List.append_nil, ↓List.getElem?_cons_zero, ↓List.getElem?_cons_succ, ↓List.set_cons_zero, ↓List.set_cons_succ, wipeD, Bool.not_true, Bool.not_false, decide_true, decide_false, beq_self_eq_true, true_and, and_true, Nat.reduceLeDiff, toDs, toDk, toDs_sh, ↓zS_ownO, ↓zS_ii, ↓zS_bi, ↓zS_tt, ↓zS_ll, ↓zS_ss, ↓zS_isC, ↓zS_isCD, ↓zS_ms, ↓zS_c1, ↓zS_c2, ↓zS_iis, ↓zS_iii, ↓zS_ibi, ↓zS_iib, ↓zS_ibb, ↓zS_iin, ↓zS_iil, ↓zS_iit, ↓zS_iid, ↓zS_isI, ↓zS_isb, ↓zS_isn, ↓zS_isl, ↓zS_ist, ↓zS_isd, ↓zS_tus, ↓zS_tui, ↓zS_tub, ↓zS_tun, ↓zS_tul, ↓zS_tud]
      simp only [_law_is_colours_at_3, ↓zHd0, zHp0, ↓zGd0, ↓zGd1, ↓zGd2, ↓zGd3, ↓zGd4, zGp0, startD, ↓List.map_cons, ↓List.map_nil, ↓List.length_cons, ↓List.length_nil, Nat.reduceAdd, Nat.reduceSub, Nat.sub_self, List.replicate, ↓List.cons_append, ↓List.nil_append, List.append_nil, ↓List.getElem?_cons_zero, ↓List.getElem?_cons_succ, ↓List.set_cons_zero, ↓List.set_cons_succ, wipeD, Bool.not_true, Bool.not_false, decide_true, decide_false, beq_self_eq_true, true_and, and_true, Nat.reduceLeDiff, toDs, toDk, toDs_sh, ↓zS_ownO, ↓zS_ii, ↓zS_bi, ↓zS_tt, ↓zS_ll, ↓zS_ss, ↓zS_isC, ↓zS_isCD, ↓zS_ms, ↓zS_c1, ↓zS_c2, ↓zS_iis, ↓zS_iii, ↓zS_ibi, ↓zS_iib, ↓zS_ibb, ↓zS_iin, ↓zS_iil, ↓zS_iit, ↓zS_iid, ↓zS_isI, ↓zS_isb, ↓zS_isn, ↓zS_isl, ↓zS_ist, ↓zS_isd, ↓zS_tus, ↓zS_tui, ↓zS_tub, ↓zS_tun, ↓zS_tul, ↓zS_tud]
      refine ⟨by show (chars x).length ≤ _; unfold chars; rw [List.length_map, len_toList]; exact sz_w hl, ?_⟩
      refine lc_fof (α := Nat) (fun c : Nat => .str ⟨#[c]⟩) (fun c => .str ⟨#[c]⟩) (fun c => !isLet c) x.cps.toList [] (fun c hc R hR => ?_) (fun c hc _ R hR => ?_) ?_
      · simp only [↓zHd0, zHp0, ↓zGd0, ↓zGd1, ↓zGd2, ↓zGd3, ↓zGd4, zGp0, startD, ↓List.map_cons, ↓List.map_nil, ↓List.length_cons, ↓List.length_nil, Nat.reduceAdd, Nat.reduceSub, Nat.sub_self, List.replicate, ↓List.cons_append, ↓List.nil_append, List.append_nil, ↓List.getElem?_cons_zero, ↓List.getElem?_cons_succ, ↓List.set_cons_zero, ↓List.set_cons_succ, wipeD, Bool.not_true, Bool.not_false, decide_true, decide_false, beq_self_eq_true, true_and, and_true, Nat.reduceLeDiff, toDs, toDk, toDs_sh, ↓zS_ownO, ↓zS_ii, ↓zS_bi, ↓zS_tt, ↓zS_ll, ↓zS_ss, ↓zS_isC, ↓zS_isCD, ↓zS_ms, ↓zS_c1, ↓zS_c2, ↓zS_iis, ↓zS_iii, ↓zS_ibi, ↓zS_iib, ↓zS_ibb, ↓zS_iin, ↓zS_iil, ↓zS_iit, ↓zS_iid, ↓zS_isI, ↓zS_isb, ↓zS_isn, ↓zS_isl, ↓zS_ist, ↓zS_isd, ↓zS_tus, ↓zS_tui, ↓zS_tub, ↓zS_tun, ↓zS_tul, ↓zS_tud]
        have e1 : (!decide ((⟨#[c]⟩ : Str).cps.toList < (Str.ofString "a").cps.toList)) = decide (97 ≤ c) := by
          rw [show (Str.ofString "a").cps.toList = [97] by decide +kernel, show (⟨#[c]⟩ : Str).cps.toList = [c] from rfl, Bool.eq_iff_iff, Bool.not_eq_true', decide_eq_false_iff_not, lt_one, decide_eq_true_iff]
          omega
        have e2 : (!decide ((Str.ofString "z").cps.toList < (⟨#[c]⟩ : Str).cps.toList)) = decide (c ≤ 122) := by
          rw [show (Str.ofString "z").cps.toList = [122] by decide +kernel, show (⟨#[c]⟩ : Str).cps.toList = [c] from rfl, Bool.eq_iff_iff, Bool.not_eq_true', decide_eq_false_iff_not, lt_one, decide_eq_true_iff]
          omega
        have hR : R (!(decide (97 ≤ c) && decide (c ≤ 122))) := hR
        rw [e1, e2]
        by_cases k : 97 ≤ c
        · rw [decide_eq_true k, Bool.true_and] at hR
          rw [decide_eq_true k, if_pos rfl]
          exact hR
        · rw [decide_eq_false k, Bool.false_and] at hR
          rw [decide_eq_false k, if_neg Bool.false_ne_true]
          exact hR
      · simp only [↓zHd0, zHp0, ↓zGd0, ↓zGd1, ↓zGd2, ↓zGd3, ↓zGd4, zGp0, startD, ↓List.map_cons, ↓List.map_nil, ↓List.length_cons, ↓List.length_nil, Nat.reduceAdd, Nat.reduceSub, Nat.sub_self, List.replicate, ↓List.cons_append, ↓List.nil_append, List.append_nil, ↓List.getElem?_cons_zero, ↓List.getElem?_cons_succ, ↓List.set_cons_zero, ↓List.set_cons_succ, wipeD, Bool.not_true, Bool.not_false, decide_true, decide_false, beq_self_eq_true, true_and, and_true, Nat.reduceLeDiff, toDs, toDk, toDs_sh, ↓zS_ownO, ↓zS_ii, ↓zS_bi, ↓zS_tt, ↓zS_ll, ↓zS_ss, ↓zS_isC, ↓zS_isCD, ↓zS_ms, ↓zS_c1, ↓zS_c2, ↓zS_iis, ↓zS_iii, ↓zS_ibi, ↓zS_iib, ↓zS_ibb, ↓zS_iin, ↓zS_iil, ↓zS_iit, ↓zS_iid, ↓zS_isI, ↓zS_isb, ↓zS_isn, ↓zS_isl, ↓zS_ist, ↓zS_isd, ↓zS_tus, ↓zS_tui, ↓zS_tub, ↓zS_tun, ↓zS_tul, ↓zS_tud]
        exact hR
      · rw [List.nil_append]
        obtain ⟨f1, f2⟩ := fine_strs (l := x.cps.toList.filter fun c => !isLet c) fun c hc => sok_one ho (List.mem_filter.mp hc).1
        have pl : DL.plain (.lst ((x.cps.toList.filter fun c => !isLet c).map fun c => D.str ⟨#[c]⟩)) = true := by
          unfold DL.plain
          rw [D.fine, f1, D.dep, f2]
          rfl
        refine ⟨⟨pl, by rfl⟩, ?_⟩
        have e3 : eqb (.lst ((x.cps.toList.filter fun c => !isLet c).map fun c => D.str ⟨#[c]⟩)) (.lst []) = x.cps.toList.all isLet := by
          cases e4 : x.cps.toList.filter fun c => !isLet c with
          | nil =>
            rw [List.map_nil, eqb_nil]
            refine (List.all_eq_true.mpr fun c hc => ?_).symm
            have := List.filter_eq_nil_iff.mp e4 c hc
            simpa using this
          | cons y ys =>
            rw [List.map_cons, eqb_nc]
            refine (Bool.eq_false_iff.mpr fun hall => ?_).symm
            have hy : y ∈ x.cps.toList.filter fun c => !isLet c := by rw [e4]; exact List.mem_cons_self
            obtain ⟨h1, h2⟩ := List.mem_filter.mp hy
            rw [List.all_eq_true.mp hall y h1] at h2
            cases h2
        rw [e3]
        exact hq
  | _ => simp only [↓zHd0, zHp0, ↓zGd0, ↓zGd1, ↓zGd2, ↓zGd3, ↓zGd4, zGp0, startD, ↓List.map_cons, ↓List.map_nil, ↓List.length_cons, ↓List.length_nil, Nat.reduceAdd, Nat.reduceSub, Nat.sub_self, List.replicate, ↓List.cons_append, ↓List.nil_append, List.append_nil, ↓List.getElem?_cons_zero, ↓List.getElem?_cons_succ, ↓List.set_cons_zero, ↓List.set_cons_succ, wipeD, Bool.not_true, Bool.not_false, decide_true, decide_false, beq_self_eq_true, true_and, and_true, Nat.reduceLeDiff, toDs, toDk, toDs_sh, ↓zS_ownO, ↓zS_ii, ↓zS_bi, ↓zS_tt, ↓zS_ll, ↓zS_ss, ↓zS_isC, ↓zS_isCD, ↓zS_ms, ↓zS_c1, ↓zS_c2, ↓zS_iis, ↓zS_iii, ↓zS_ibi, ↓zS_iib, ↓zS_ibb, ↓zS_iin, ↓zS_iil, ↓zS_iit, ↓zS_iid, ↓zS_isI, ↓zS_isb, ↓zS_isn, ↓zS_isl, ↓zS_ist, ↓zS_isd, ↓zS_tus, ↓zS_tui, ↓zS_tub, ↓zS_tun, ↓zS_tul, ↓zS_tud]; exact hq
theorem colIx (ha : okX a = true) (hb : okX b = true) {Q : List D → Prop} (h0 : colV a = false → Wx 21 "place" (.int 0)) (h1 : colV a = true → colV b = false → Wx 21 "place" (.int 1)) (hq : colV a = true → colV b = true → Q [b, a]) : Sx_Colours___init__ Wx [a, b] Q := by
  refine ⟨rfl, fun x => ?_⟩
  show tx_Colours___init__ Wx _ [some (.nw x 4 []), some (.sh a), some (.sh b), none, none]
  simp only [tx_Colours___init__, ↓zHd0, zHp0, ↓zGd0, ↓zGd1, ↓zGd2, ↓zGd3, ↓zGd4, zGp0, startD, ↓List.map_cons, ↓List.map_nil, ↓List.length_cons, ↓List.length_nil, Nat.reduceAdd, Nat.reduceSub, Nat.sub_self, List.replicate, ↓List.cons_append, ↓List.nil_append, List.append_nil, ↓List.getElem?_cons_zero, ↓List.getElem?_cons_succ, ↓List.set_cons_zero, ↓List.set_cons_succ, wipeD, Bool.not_true, Bool.not_false, decide_true, decide_false, beq_self_eq_true, true_and, and_true, Nat.reduceLeDiff, toDs, toDk, toDs_sh, ↓zS_ownO, ↓zS_ii, ↓zS_bi, ↓zS_tt, ↓zS_ll, ↓zS_ss, ↓zS_isC, ↓zS_isCD, ↓zS_ms, ↓zS_c1, ↓zS_c2, ↓zS_iis, ↓zS_iii, ↓zS_ibi, ↓zS_iib, ↓zS_ibb, ↓zS_iin, ↓zS_iil, ↓zS_iit, ↓zS_iid, ↓zS_isI, ↓zS_isb, ↓zS_isn, ↓zS_isl, ↓zS_ist, ↓zS_isd, ↓zS_tus, ↓zS_tui, ↓zS_tub, ↓zS_tun, ↓zS_tul, ↓zS_tud]
  rw [enum2, forD_c]
  simp only [xb_Colours___init___1, ↓zHd0, zHp0, ↓zGd0, ↓zGd1, ↓zGd2, ↓zGd3, ↓zGd4, zGp0, startD, ↓List.map_cons, ↓List.map_nil, ↓List.length_cons, ↓List.length_nil, Nat.reduceAdd, Nat.reduceSub, Nat.sub_self, List.replicate, ↓List.cons_append, ↓List.nil_append, List.append_nil, ↓List.getElem?_cons_zero, ↓List.getElem?_cons_succ, ↓List.set_cons_zero, ↓List.set_cons_succ, wipeD, Bool.not_true, Bool.not_false, decide_true, decide_false, beq_self_eq_true, true_and, and_true, Nat.reduceLeDiff, toDs, toDk, toDs_sh, ↓zS_ownO, ↓zS_ii, ↓zS_bi, ↓zS_tt, ↓zS_ll, ↓zS_ss, ↓zS_isC, ↓zS_isCD, ↓zS_ms, ↓zS_c1, ↓zS_c2, ↓zS_iis, ↓zS_iii, ↓zS_ibi, ↓zS_iib, ↓zS_ibb, ↓zS_iin, ↓zS_iil, ↓zS_iit, ↓zS_iid, ↓zS_isI, ↓zS_isb, ↓zS_isn, ↓zS_isl, ↓zS_ist, ↓zS_isd, ↓zS_tus, ↓zS_tui, ↓zS_tub, ↓zS_tun, ↓zS_tul, ↓zS_tud]
  refine cols_any ha ?_
  cases ea : colV a with
  | false => simp only [↓zHd0, zHp0, ↓zGd0, ↓zGd1, ↓zGd2, ↓zGd3, ↓zGd4, zGp0, startD, ↓List.map_cons, ↓List.map_nil, ↓List.length_cons, ↓List.length_nil, Nat.reduceAdd, Nat.reduceSub, Nat.sub_self, List.replicate, ↓List.cons_append, ↓List.nil_append, List.append_nil, ↓List.getElem?_cons_zero, ↓List.getElem?_cons_succ, ↓List.set_cons_zero, ↓List.set_cons_succ, wipeD, Bool.not_true, Bool.not_false, decide_true, decide_false, beq_self_eq_true, true_and, and_true, Nat.reduceLeDiff, toDs, toDk, toDs_sh, ↓zS_ownO, ↓zS_ii, ↓zS_bi, ↓zS_tt, ↓zS_ll, ↓zS_ss, ↓zS_isC, ↓zS_isCD, ↓zS_ms, ↓zS_c1, ↓zS_c2, ↓zS_iis, ↓zS_iii, ↓zS_ibi, ↓zS_iib, ↓zS_ibb, ↓zS_iin, ↓zS_iil, ↓zS_iit, ↓zS_iid, ↓zS_isI, ↓zS_isb, ↓zS_isn, ↓zS_isl, ↓zS_ist, ↓zS_isd, ↓zS_tus, ↓zS_tui, ↓zS_tub, ↓zS_tun, ↓zS_tul, ↓zS_tud]; exact h0 ea
  | true =>
    simp only [forD_c, xb_Colours___init___1, ↓zHd0, zHp0, ↓zGd0, ↓zGd1, ↓zGd2, ↓zGd3, ↓zGd4, zGp0, startD, ↓List.map_cons, ↓List.map_nil, ↓List.length_cons, ↓List.length_nil, Nat.reduceAdd, Nat.reduceSub, Nat.sub_self, List.replicate, ↓List.cons_append, ↓List.nil_append, List.append_nil, ↓List.getElem?_cons_zero, ↓List.getElem?_cons_succ, ↓List.set_cons_zero, ↓List.set_cons_succ, wipeD, Bool.not_true, Bool.not_false, decide_true, decide_false, beq_self_eq_true, true_and, and_true, Nat.reduceLeDiff, toDs, toDk, toDs_sh, ↓zS_ownO, ↓zS_ii, ↓zS_bi, ↓zS_tt, ↓zS_ll, ↓zS_ss, ↓zS_isC, ↓zS_isCD, ↓zS_ms, ↓zS_c1, ↓zS_c2, ↓zS_iis, ↓zS_iii, ↓zS_ibi, ↓zS_iib, ↓zS_ibb, ↓zS_iin, ↓zS_iil, ↓zS_iit, ↓zS_iid, ↓zS_isI, ↓zS_isb, ↓zS_isn, ↓zS_isl, ↓zS_ist, ↓zS_isd, ↓zS_tus, ↓zS_tui, ↓zS_tub, ↓zS_tun, ↓zS_tul, ↓zS_tud]
    refine cols_any hb ?_
    cases eb : colV b with
    | false => simp only [↓zHd0, zHp0, ↓zGd0, ↓zGd1, ↓zGd2, ↓zGd3, ↓zGd4, zGp0, startD, ↓List.map_cons, ↓List.map_nil, ↓List.length_cons, ↓List.length_nil, Nat.reduceAdd, Nat.reduceSub, Nat.sub_self, List.replicate, ↓List.cons_append, ↓List.nil_append, List.append_nil, ↓List.getElem?_cons_zero, ↓List.getElem?_cons_succ, ↓List.set_cons_zero, ↓List.set_cons_succ, wipeD, Bool.not_true, Bool.not_false, decide_true, decide_false, beq_self_eq_true, true_and, and_true, Nat.reduceLeDiff, toDs, toDk, toDs_sh, ↓zS_ownO, ↓zS_ii, ↓zS_bi, ↓zS_tt, ↓zS_ll, ↓zS_ss, ↓zS_isC, ↓zS_isCD, ↓zS_ms, ↓zS_c1, ↓zS_c2, ↓zS_iis, ↓zS_iii, ↓zS_ibi, ↓zS_iib, ↓zS_ibb, ↓zS_iin, ↓zS_iil, ↓zS_iit, ↓zS_iid, ↓zS_isI, ↓zS_isb, ↓zS_isn, ↓zS_isl, ↓zS_ist, ↓zS_isd, ↓zS_tus, ↓zS_tui, ↓zS_tub, ↓zS_tun, ↓zS_tul, ↓zS_tud]; exact h1 ea eb
    | true =>
      simp only [forD_n, ↓zHd0, zHp0, ↓zGd0, ↓zGd1, ↓zGd2, ↓zGd3, ↓zGd4, zGp0, startD, ↓List.map_cons, ↓List.map_nil, ↓List.length_cons, ↓List.length_nil, Nat.reduceAdd, Nat.reduceSub, Nat.sub_self, List.replicate, ↓List.cons_append, ↓List.nil_append, List.append_nil, ↓List.getElem?_cons_zero, ↓List.getElem?_cons_succ, ↓List.set_cons_zero, ↓List.set_cons_succ, wipeD, Bool.not_true, Bool.not_false, decide_true, decide_false, beq_self_eq_true, true_and, and_true, Nat.reduceLeDiff, toDs, toDk, toDs_sh, ↓zS_ownO, ↓zS_ii, ↓zS_bi, ↓zS_tt, ↓zS_ll, ↓zS_ss, ↓zS_isC, ↓zS_isCD, ↓zS_ms, ↓zS_c1, ↓zS_c2, ↓zS_iis, ↓zS_iii, ↓zS_ibi, ↓zS_iib, ↓zS_ibb, ↓zS_iin, ↓zS_iil, ↓zS_iit, ↓zS_iid, ↓zS_isI, ↓zS_isb, ↓zS_isn, ↓zS_isl, ↓zS_ist, ↓zS_isd, ↓zS_tus, ↓zS_tui, ↓zS_tub, ↓zS_tun, ↓zS_tul, ↓zS_tud]
      refine ⟨⟨rfl, rfl⟩, ⟨rfl, rfl⟩, [b, a], rfl, by simp, hq ea eb⟩
def ribK : D → Bool
  | .tup [a, b] => fSd a && fC b
  | _ => false
theorem shownx_no (h : okX d = true) (hv : ribK d = false) (hr : Wx 24 "ribbon" d) : Sx_Colours_shown Wx [co s t, d] Q := by
  have hk := okX_k h
  refine ⟨rfl, ?_⟩
  show tx_Colours_shown Wx _ [some (.sh (co s t)), some (.sh d), none]
  simp only [tx_Colours_shown, ↓zHd0, zHp0, ↓zGd0, ↓zGd1, ↓zGd2, ↓zGd3, ↓zGd4, zGp0, startD, ↓List.map_cons, ↓List.map_nil, ↓List.length_cons, ↓List.length_nil, Nat.reduceAdd, Nat.reduceSub, Nat.sub_self, List.replicate, ↓List.cons_append, ↓List.nil_append, List.append_nil, ↓List.getElem?_cons_zero, ↓List.getElem?_cons_succ, ↓List.set_cons_zero, ↓List.set_cons_succ, wipeD, Bool.not_true, Bool.not_false, decide_true, decide_false, beq_self_eq_true, true_and, and_true, Nat.reduceLeDiff, toDs, toDk, toDs_sh, ↓zS_ownO, ↓zS_ii, ↓zS_bi, ↓zS_tt, ↓zS_ll, ↓zS_ss, ↓zS_isC, ↓zS_isCD, ↓zS_ms, ↓zS_c1, ↓zS_c2, ↓zS_iis, ↓zS_iii, ↓zS_ibi, ↓zS_iib, ↓zS_ibb, ↓zS_iin, ↓zS_iil, ↓zS_iit, ↓zS_iid, ↓zS_isI, ↓zS_isb, ↓zS_isn, ↓zS_isl, ↓zS_ist, ↓zS_isd, ↓zS_tus, ↓zS_tui, ↓zS_tub, ↓zS_tun, ↓zS_tul, ↓zS_tud]
  cases d with
  | obj => cases hk
  | bag => cases hk
  | ktup => cases hk
  | tup xs =>
    have ht := okX_t h
    simp only [↓zHd0, zHp0, ↓zGd0, ↓zGd1, ↓zGd2, ↓zGd3, ↓zGd4, zGp0, startD, ↓List.map_cons, ↓List.map_nil, ↓List.length_cons, ↓List.length_nil, Nat.reduceAdd, Nat.reduceSub, Nat.sub_self, List.replicate, ↓List.cons_append, ↓List.nil_append, List.append_nil, ↓List.getElem?_cons_zero, ↓List.getElem?_cons_succ, ↓List.set_cons_zero, ↓List.set_cons_succ, wipeD, Bool.not_true, Bool.not_false, decide_true, decide_false, beq_self_eq_true, true_and, and_true, Nat.reduceLeDiff, toDs, toDk, toDs_sh, ↓zS_ownO, ↓zS_ii, ↓zS_bi, ↓zS_tt, ↓zS_ll, ↓zS_ss, ↓zS_isC, ↓zS_isCD, ↓zS_ms, ↓zS_c1, ↓zS_c2, ↓zS_iis, ↓zS_iii, ↓zS_ibi, ↓zS_iib, ↓zS_ibb, ↓zS_iin, ↓zS_iil, ↓zS_iit, ↓zS_iid, ↓zS_isI, ↓zS_isb, ↓zS_isn, ↓zS_isl, ↓zS_ist, ↓zS_isd, ↓zS_tus, ↓zS_tui, ↓zS_tub, ↓zS_tun, ↓zS_tul, ↓zS_tud]
    match xs, ht, hv, hr with
    | [], _, _, hr => simp only [↓zHd0, zHp0, ↓zGd0, ↓zGd1, ↓zGd2, ↓zGd3, ↓zGd4, zGp0, startD, ↓List.map_cons, ↓List.map_nil, ↓List.length_cons, ↓List.length_nil, Nat.reduceAdd, Nat.reduceSub, Nat.sub_self, List.replicate, ↓List.cons_append, ↓List.nil_append, List.append_nil, ↓List.getElem?_cons_zero, ↓List.getElem?_cons_succ, ↓List.set_cons_zero, ↓List.set_cons_succ, wipeD, Bool.not_true, Bool.not_false, decide_true, decide_false, beq_self_eq_true, true_and, and_true, Nat.reduceLeDiff, toDs, toDk, toDs_sh, ↓zS_ownO, ↓zS_ii, ↓zS_bi, ↓zS_tt, ↓zS_ll, ↓zS_ss, ↓zS_isC, ↓zS_isCD, ↓zS_ms, ↓zS_c1, ↓zS_c2, ↓zS_iis, ↓zS_iii, ↓zS_ibi, ↓zS_iib, ↓zS_ibb, ↓zS_iin, ↓zS_iil, ↓zS_iit, ↓zS_iid, ↓zS_isI, ↓zS_isb, ↓zS_isn, ↓zS_isl, ↓zS_ist, ↓zS_isd, ↓zS_tus, ↓zS_tui, ↓zS_tub, ↓zS_tun, ↓zS_tul, ↓zS_tud]; exact hr
    | [_], _, _, hr => simp only [↓zHd0, zHp0, ↓zGd0, ↓zGd1, ↓zGd2, ↓zGd3, ↓zGd4, zGp0, startD, ↓List.map_cons, ↓List.map_nil, ↓List.length_cons, ↓List.length_nil, Nat.reduceAdd, Nat.reduceSub, Nat.sub_self, List.replicate, ↓List.cons_append, ↓List.nil_append, List.append_nil, ↓List.getElem?_cons_zero, ↓List.getElem?_cons_succ, ↓List.set_cons_zero, ↓List.set_cons_succ, wipeD, Bool.not_true, Bool.not_false, decide_true, decide_false, beq_self_eq_true, true_and, and_true, Nat.reduceLeDiff, toDs, toDk, toDs_sh, ↓zS_ownO, ↓zS_ii, ↓zS_bi, ↓zS_tt, ↓zS_ll, ↓zS_ss, ↓zS_isC, ↓zS_isCD, ↓zS_ms, ↓zS_c1, ↓zS_c2, ↓zS_iis, ↓zS_iii, ↓zS_ibi, ↓zS_iib, ↓zS_ibb, ↓zS_iin, ↓zS_iil, ↓zS_iit, ↓zS_iid, ↓zS_isI, ↓zS_isb, ↓zS_isn, ↓zS_isl, ↓zS_ist, ↓zS_isd, ↓zS_tus, ↓zS_tui, ↓zS_tub, ↓zS_tun, ↓zS_tul, ↓zS_tud]; exact hr
    | a :: b :: c :: r, _, _, hr =>
      rw [len3]
      simp only [↓zHd0, zHp0, ↓zGd0, ↓zGd1, ↓zGd2, ↓zGd3, ↓zGd4, zGp0, startD, ↓List.map_cons, ↓List.map_nil, ↓List.length_cons, ↓List.length_nil, Nat.reduceAdd, Nat.reduceSub, Nat.sub_self, List.replicate, ↓List.cons_append, ↓List.nil_append, List.append_nil, ↓List.getElem?_cons_zero, ↓List.getElem?_cons_succ, ↓List.set_cons_zero, ↓List.set_cons_succ, wipeD, Bool.not_true, Bool.not_false, decide_true, decide_false, beq_self_eq_true, true_and, and_true, Nat.reduceLeDiff, toDs, toDk, toDs_sh, ↓zS_ownO, ↓zS_ii, ↓zS_bi, ↓zS_tt, ↓zS_ll, ↓zS_ss, ↓zS_isC, ↓zS_isCD, ↓zS_ms, ↓zS_c1, ↓zS_c2, ↓zS_iis, ↓zS_iii, ↓zS_ibi, ↓zS_iib, ↓zS_ibb, ↓zS_iin, ↓zS_iil, ↓zS_iit, ↓zS_iid, ↓zS_isI, ↓zS_isb, ↓zS_isn, ↓zS_isl, ↓zS_ist, ↓zS_isd, ↓zS_tus, ↓zS_tui, ↓zS_tub, ↓zS_tun, ↓zS_tul, ↓zS_tud, Bool.not_false]
      exact hr
    | [a, b], ht, hv, hr =>
      have hv : (fSd a && fC b) = false := hv
      simp only [↓zHd0, zHp0, ↓zGd0, ↓zGd1, ↓zGd2, ↓zGd3, ↓zGd4, zGp0, startD, ↓List.map_cons, ↓List.map_nil, ↓List.length_cons, ↓List.length_nil, Nat.reduceAdd, Nat.reduceSub, Nat.sub_self, List.replicate, ↓List.cons_append, ↓List.nil_append, List.append_nil, ↓List.getElem?_cons_zero, ↓List.getElem?_cons_succ, ↓List.set_cons_zero, ↓List.set_cons_succ, wipeD, Bool.not_true, Bool.not_false, decide_true, decide_false, beq_self_eq_true, true_and, and_true, Nat.reduceLeDiff, toDs, toDk, toDs_sh, ↓zS_ownO, ↓zS_ii, ↓zS_bi, ↓zS_tt, ↓zS_ll, ↓zS_ss, ↓zS_isC, ↓zS_isCD, ↓zS_ms, ↓zS_c1, ↓zS_c2, ↓zS_iis, ↓zS_iii, ↓zS_ibi, ↓zS_iib, ↓zS_ibb, ↓zS_iin, ↓zS_iil, ↓zS_iit, ↓zS_iid, ↓zS_isI, ↓zS_isb, ↓zS_isn, ↓zS_isl, ↓zS_ist, ↓zS_isd, ↓zS_tus, ↓zS_tui, ↓zS_tub, ↓zS_tun, ↓zS_tul, ↓zS_tud]
      refine side_any (ht a (by simp)) ?_
      cases e : fSd a with
      | false =>
        simp only [↓zHd0, zHp0, ↓zGd0, ↓zGd1, ↓zGd2, ↓zGd3, ↓zGd4, zGp0, startD, ↓List.map_cons, ↓List.map_nil, ↓List.length_cons, ↓List.length_nil, Nat.reduceAdd, Nat.reduceSub, Nat.sub_self, List.replicate, ↓List.cons_append, ↓List.nil_append, List.append_nil, ↓List.getElem?_cons_zero, ↓List.getElem?_cons_succ, ↓List.set_cons_zero, ↓List.set_cons_succ, wipeD, Bool.not_true, Bool.not_false, decide_true, decide_false, beq_self_eq_true, true_and, and_true, Nat.reduceLeDiff, toDs, toDk, toDs_sh, ↓zS_ownO, ↓zS_ii, ↓zS_bi, ↓zS_tt, ↓zS_ll, ↓zS_ss, ↓zS_isC, ↓zS_isCD, ↓zS_ms, ↓zS_c1, ↓zS_c2, ↓zS_iis, ↓zS_iii, ↓zS_ibi, ↓zS_iib, ↓zS_ibb, ↓zS_iin, ↓zS_iil, ↓zS_iit, ↓zS_iid, ↓zS_isI, ↓zS_isb, ↓zS_isn, ↓zS_isl, ↓zS_ist, ↓zS_isd, ↓zS_tus, ↓zS_tui, ↓zS_tub, ↓zS_tun, ↓zS_tul, ↓zS_tud]
        exact hr
      | true =>
        rw [e, Bool.true_and] at hv
        simp only [↓zHd0, zHp0, ↓zGd0, ↓zGd1, ↓zGd2, ↓zGd3, ↓zGd4, zGp0, startD, ↓List.map_cons, ↓List.map_nil, ↓List.length_cons, ↓List.length_nil, Nat.reduceAdd, Nat.reduceSub, Nat.sub_self, List.replicate, ↓List.cons_append, ↓List.nil_append, List.append_nil, ↓List.getElem?_cons_zero, ↓List.getElem?_cons_succ, ↓List.set_cons_zero, ↓List.set_cons_succ, wipeD, Bool.not_true, Bool.not_false, decide_true, decide_false, beq_self_eq_true, true_and, and_true, Nat.reduceLeDiff, toDs, toDk, toDs_sh, ↓zS_ownO, ↓zS_ii, ↓zS_bi, ↓zS_tt, ↓zS_ll, ↓zS_ss, ↓zS_isC, ↓zS_isCD, ↓zS_ms, ↓zS_c1, ↓zS_c2, ↓zS_iis, ↓zS_iii, ↓zS_ibi, ↓zS_iib, ↓zS_ibb, ↓zS_iin, ↓zS_iil, ↓zS_iit, ↓zS_iid, ↓zS_isI, ↓zS_isb, ↓zS_isn, ↓zS_isl, ↓zS_ist, ↓zS_isd, ↓zS_tus, ↓zS_tui, ↓zS_tub, ↓zS_tun, ↓zS_tul, ↓zS_tud]
        refine cnt_ok (ht b (by simp)) ?_
        rw [hv]
        simp only [↓zHd0, zHp0, ↓zGd0, ↓zGd1, ↓zGd2, ↓zGd3, ↓zGd4, zGp0, startD, ↓List.map_cons, ↓List.map_nil, ↓List.length_cons, ↓List.length_nil, Nat.reduceAdd, Nat.reduceSub, Nat.sub_self, List.replicate, ↓List.cons_append, ↓List.nil_append, List.append_nil, ↓List.getElem?_cons_zero, ↓List.getElem?_cons_succ, ↓List.set_cons_zero, ↓List.set_cons_succ, wipeD, Bool.not_true, Bool.not_false, decide_true, decide_false, beq_self_eq_true, true_and, and_true, Nat.reduceLeDiff, toDs, toDk, toDs_sh, ↓zS_ownO, ↓zS_ii, ↓zS_bi, ↓zS_tt, ↓zS_ll, ↓zS_ss, ↓zS_isC, ↓zS_isCD, ↓zS_ms, ↓zS_c1, ↓zS_c2, ↓zS_iis, ↓zS_iii, ↓zS_ibi, ↓zS_iib, ↓zS_ibb, ↓zS_iin, ↓zS_iil, ↓zS_iit, ↓zS_iid, ↓zS_isI, ↓zS_isb, ↓zS_isn, ↓zS_isl, ↓zS_ist, ↓zS_isd, ↓zS_tus, ↓zS_tui, ↓zS_tub, ↓zS_tun, ↓zS_tul, ↓zS_tud]
        exact hr
  | _ => simp only [↓zHd0, zHp0, ↓zGd0, ↓zGd1, ↓zGd2, ↓zGd3, ↓zGd4, zGp0, startD, ↓List.map_cons, ↓List.map_nil, ↓List.length_cons, ↓List.length_nil, Nat.reduceAdd, Nat.reduceSub, Nat.sub_self, List.replicate, ↓List.cons_append, ↓List.nil_append, List.append_nil, ↓List.getElem?_cons_zero, ↓List.getElem?_cons_succ, ↓List.set_cons_zero, ↓List.set_cons_succ, wipeD, Bool.not_true, Bool.not_false, decide_true, decide_false, beq_self_eq_true, true_and, and_true, Nat.reduceLeDiff, toDs, toDk, toDs_sh, ↓zS_ownO, ↓zS_ii, ↓zS_bi, ↓zS_tt, ↓zS_ll, ↓zS_ss, ↓zS_isC, ↓zS_isCD, ↓zS_ms, ↓zS_c1, ↓zS_c2, ↓zS_iis, ↓zS_iii, ↓zS_ibi, ↓zS_iib, ↓zS_ibb, ↓zS_iin, ↓zS_iil, ↓zS_iit, ↓zS_iid, ↓zS_isI, ↓zS_isb, ↓zS_isn, ↓zS_isl, ↓zS_ist, ↓zS_isd, ↓zS_tus, ↓zS_tui, ↓zS_tub, ↓zS_tun, ↓zS_tul, ↓zS_tud]; exact hr
def srS (x : Str) : Str := match srD x with
  | .str y => y
  | _ => x
theorem srS_eq {x y : Str} (hx : OkC x) (hy : OkC y) : (srS x = srS y) ↔ srD x = srD y := by
  obtain ⟨u, e1, _⟩ := sr_str hx
  obtain ⟨v, e2, _⟩ := sr_str hy
  unfold srS
  rw [e1, e2]
  exact ⟨fun z => by rw [show u = v from z], fun z => by injection z⟩
theorem ceq_any (hs : OkC s) (ht : OkC t) (hs' : OkC s') (ht' : OkC t') (hq : Q (.bl (decide (srS s = srS s') && decide (srS t = srS t')))) : S_Colours___eq__ [co s t, co s' t'] Q := by
  refine ⟨rfl, ?_⟩
  show t_Colours___eq__ _ [some (.sh (co s t)), some (.sh (co s' t')), none, none, none]
  simp only [t_Colours___eq__, ↓zHd0, zHp0, ↓zGd0, ↓zGd1, ↓zGd2, ↓zGd3, ↓zGd4, zGp0, startD, ↓List.map_cons, ↓List.map_nil, ↓List.length_cons, ↓List.length_nil, Nat.reduceAdd, Nat.reduceSub, Nat.sub_self, List.replicate, ↓List.cons_append, ↓List.nil_append, List.append_nil, ↓List.getElem?_cons_zero, ↓List.getElem?_cons_succ, ↓List.set_cons_zero, ↓List.set_cons_succ, wipeD, Bool.not_true, Bool.not_false, decide_true, decide_false, beq_self_eq_true, true_and, and_true, Nat.reduceLeDiff, toDs, toDk, toDs_sh, ↓zS_ownO, ↓zS_ii, ↓zS_bi, ↓zS_tt, ↓zS_ll, ↓zS_ss, ↓zS_isC, ↓zS_isCD, ↓zS_ms, ↓zS_c1, ↓zS_c2, ↓zS_iis, ↓zS_iii, ↓zS_ibi, ↓zS_iib, ↓zS_ibb, ↓zS_iin, ↓zS_iil, ↓zS_iit, ↓zS_iid, ↓zS_isI, ↓zS_isb, ↓zS_isn, ↓zS_isl, ↓zS_ist, ↓zS_isd, ↓zS_tus, ↓zS_tui, ↓zS_tub, ↓zS_tun, ↓zS_tul, ↓zS_tud]
  simp only [Colours___eq___at_3, ↓zHd0, zHp0, ↓zGd0, ↓zGd1, ↓zGd2, ↓zGd3, ↓zGd4, zGp0, startD, ↓List.map_cons, ↓List.map_nil, ↓List.length_cons, ↓List.length_nil, Nat.reduceAdd, Nat.reduceSub, Nat.sub_self, List.replicate, ↓List.cons_append, ↓List.nil_append, List.append_nil, ↓List.getElem?_cons_zero, ↓List.getElem?_cons_succ, ↓List.set_cons_zero, ↓List.set_cons_succ, wipeD, Bool.not_true, Bool.not_false, decide_true, decide_false, beq_self_eq_true, true_and, and_true, Nat.reduceLeDiff, toDs, toDk, toDs_sh, ↓zS_ownO, ↓zS_ii, ↓zS_bi, ↓zS_tt, ↓zS_ll, ↓zS_ss, ↓zS_isC, ↓zS_isCD, ↓zS_ms, ↓zS_c1, ↓zS_c2, ↓zS_iis, ↓zS_iii, ↓zS_ibi, ↓zS_iib, ↓zS_ibb, ↓zS_iin, ↓zS_iil, ↓zS_iit, ↓zS_iid, ↓zS_isI, ↓zS_isb, ↓zS_isn, ↓zS_isl, ↓zS_ist, ↓zS_isd, ↓zS_tus, ↓zS_tui, ↓zS_tub, ↓zS_tun, ↓zS_tul, ↓zS_tud]
  refine suns_ok ?_
  try simp only [↓zHd0, zHp0, ↓zGd0, ↓zGd1, ↓zGd2, ↓zGd3, ↓zGd4, zGp0, startD, ↓List.map_cons, ↓List.map_nil, ↓List.length_cons, ↓List.length_nil, Nat.reduceAdd, Nat.reduceSub, Nat.sub_self, List.replicate, ↓List.cons_append, ↓List.nil_append, List.append_nil, ↓List.getElem?_cons_zero, ↓List.getElem?_cons_succ, ↓List.set_cons_zero, ↓List.set_cons_succ, wipeD, Bool.not_true, Bool.not_false, decide_true, decide_false, beq_self_eq_true, true_and, and_true, Nat.reduceLeDiff, toDs, toDk, toDs_sh, ↓zS_ownO, ↓zS_ii, ↓zS_bi, ↓zS_tt, ↓zS_ll, ↓zS_ss, ↓zS_isC, ↓zS_isCD, ↓zS_ms, ↓zS_c1, ↓zS_c2, ↓zS_iis, ↓zS_iii, ↓zS_ibi, ↓zS_iib, ↓zS_ibb, ↓zS_iin, ↓zS_iil, ↓zS_iit, ↓zS_iid, ↓zS_isI, ↓zS_isb, ↓zS_isn, ↓zS_isl, ↓zS_ist, ↓zS_isd, ↓zS_tus, ↓zS_tui, ↓zS_tub, ↓zS_tun, ↓zS_tul, ↓zS_tud]
  refine moons_ok ?_
  try simp only [↓zHd0, zHp0, ↓zGd0, ↓zGd1, ↓zGd2, ↓zGd3, ↓zGd4, zGp0, startD, ↓List.map_cons, ↓List.map_nil, ↓List.length_cons, ↓List.length_nil, Nat.reduceAdd, Nat.reduceSub, Nat.sub_self, List.replicate, ↓List.cons_append, ↓List.nil_append, List.append_nil, ↓List.getElem?_cons_zero, ↓List.getElem?_cons_succ, ↓List.set_cons_zero, ↓List.set_cons_succ, wipeD, Bool.not_true, Bool.not_false, decide_true, decide_false, beq_self_eq_true, true_and, and_true, Nat.reduceLeDiff, toDs, toDk, toDs_sh, ↓zS_ownO, ↓zS_ii, ↓zS_bi, ↓zS_tt, ↓zS_ll, ↓zS_ss, ↓zS_isC, ↓zS_isCD, ↓zS_ms, ↓zS_c1, ↓zS_c2, ↓zS_iis, ↓zS_iii, ↓zS_ibi, ↓zS_iib, ↓zS_ibb, ↓zS_iin, ↓zS_iil, ↓zS_iit, ↓zS_iid, ↓zS_isI, ↓zS_isb, ↓zS_isn, ↓zS_isl, ↓zS_ist, ↓zS_isd, ↓zS_tus, ↓zS_tui, ↓zS_tub, ↓zS_tun, ↓zS_tul, ↓zS_tud]
  simp only [Colours___eq___at_4, ↓zHd0, zHp0, ↓zGd0, ↓zGd1, ↓zGd2, ↓zGd3, ↓zGd4, zGp0, startD, ↓List.map_cons, ↓List.map_nil, ↓List.length_cons, ↓List.length_nil, Nat.reduceAdd, Nat.reduceSub, Nat.sub_self, List.replicate, ↓List.cons_append, ↓List.nil_append, List.append_nil, ↓List.getElem?_cons_zero, ↓List.getElem?_cons_succ, ↓List.set_cons_zero, ↓List.set_cons_succ, wipeD, Bool.not_true, Bool.not_false, decide_true, decide_false, beq_self_eq_true, true_and, and_true, Nat.reduceLeDiff, toDs, toDk, toDs_sh, ↓zS_ownO, ↓zS_ii, ↓zS_bi, ↓zS_tt, ↓zS_ll, ↓zS_ss, ↓zS_isC, ↓zS_isCD, ↓zS_ms, ↓zS_c1, ↓zS_c2, ↓zS_iis, ↓zS_iii, ↓zS_ibi, ↓zS_iib, ↓zS_ibb, ↓zS_iin, ↓zS_iil, ↓zS_iit, ↓zS_iid, ↓zS_isI, ↓zS_isb, ↓zS_isn, ↓zS_isl, ↓zS_ist, ↓zS_isd, ↓zS_tus, ↓zS_tui, ↓zS_tub, ↓zS_tun, ↓zS_tul, ↓zS_tud]
  have two : ∀ {s t : Str}, OkC s → OkC t → ∀ (δ : DS) (R : List D → Prop), δ.length = 5 → R [srD s, srD t] → lcD (gN 4) dYes (dCall S_shortest_round (dCons (dVar 4) dNil)) δ R [.str s, .str t] [] := by
    intro s t hs ht δ R hl hR
    refine lc_of (α := {x : Str // OkC x}) (fun x => .str x.1) (fun x => srD x.1) [⟨s, hs⟩, ⟨t, ht⟩] [] (fun x _ R hR => ?_) hR
    obtain ⟨a, b, c, d, e, rfl⟩ : ∃ a b c d e, δ = [a, b, c, d, e] := by
      match δ, hl with
      | [a, b, c, d, e], _ => exact ⟨a, b, c, d, e, rfl⟩
    simp only [↓zHd0, zHp0, ↓zGd0, ↓zGd1, ↓zGd2, ↓zGd3, ↓zGd4, zGp0, startD, ↓List.map_cons, ↓List.map_nil, ↓List.length_cons, ↓List.length_nil, Nat.reduceAdd, Nat.reduceSub, Nat.sub_self, List.replicate, ↓List.cons_append, ↓List.nil_append, List.append_nil, ↓List.getElem?_cons_zero, ↓List.getElem?_cons_succ, ↓List.set_cons_zero, ↓List.set_cons_succ, wipeD, Bool.not_true, Bool.not_false, decide_true, decide_false, beq_self_eq_true, true_and, and_true, Nat.reduceLeDiff, toDs, toDk, toDs_sh, ↓zS_ownO, ↓zS_ii, ↓zS_bi, ↓zS_tt, ↓zS_ll, ↓zS_ss, ↓zS_isC, ↓zS_isCD, ↓zS_ms, ↓zS_c1, ↓zS_c2, ↓zS_iis, ↓zS_iii, ↓zS_ibi, ↓zS_iib, ↓zS_ibb, ↓zS_iin, ↓zS_iil, ↓zS_iit, ↓zS_iid, ↓zS_isI, ↓zS_isb, ↓zS_isn, ↓zS_isl, ↓zS_ist, ↓zS_isd, ↓zS_tus, ↓zS_tui, ↓zS_tub, ↓zS_tun, ↓zS_tul, ↓zS_tud]
    exact short_ok x.2 hR
  refine ⟨by decide, two hs ht _ _ rfl ?_⟩
  try simp only [↓zHd0, zHp0, ↓zGd0, ↓zGd1, ↓zGd2, ↓zGd3, ↓zGd4, zGp0, startD, ↓List.map_cons, ↓List.map_nil, ↓List.length_cons, ↓List.length_nil, Nat.reduceAdd, Nat.reduceSub, Nat.sub_self, List.replicate, ↓List.cons_append, ↓List.nil_append, List.append_nil, ↓List.getElem?_cons_zero, ↓List.getElem?_cons_succ, ↓List.set_cons_zero, ↓List.set_cons_succ, wipeD, Bool.not_true, Bool.not_false, decide_true, decide_false, beq_self_eq_true, true_and, and_true, Nat.reduceLeDiff, toDs, toDk, toDs_sh, ↓zS_ownO, ↓zS_ii, ↓zS_bi, ↓zS_tt, ↓zS_ll, ↓zS_ss, ↓zS_isC, ↓zS_isCD, ↓zS_ms, ↓zS_c1, ↓zS_c2, ↓zS_iis, ↓zS_iii, ↓zS_ibi, ↓zS_iib, ↓zS_ibb, ↓zS_iin, ↓zS_iil, ↓zS_iit, ↓zS_iid, ↓zS_isI, ↓zS_isb, ↓zS_isn, ↓zS_isl, ↓zS_ist, ↓zS_isd, ↓zS_tus, ↓zS_tui, ↓zS_tub, ↓zS_tun, ↓zS_tul, ↓zS_tud]
  refine ⟨by decide, two hs' ht' _ _ rfl ?_⟩
  try simp only [↓zHd0, zHp0, ↓zGd0, ↓zGd1, ↓zGd2, ↓zGd3, ↓zGd4, zGp0, startD, ↓List.map_cons, ↓List.map_nil, ↓List.length_cons, ↓List.length_nil, Nat.reduceAdd, Nat.reduceSub, Nat.sub_self, List.replicate, ↓List.cons_append, ↓List.nil_append, List.append_nil, ↓List.getElem?_cons_zero, ↓List.getElem?_cons_succ, ↓List.set_cons_zero, ↓List.set_cons_succ, wipeD, Bool.not_true, Bool.not_false, decide_true, decide_false, beq_self_eq_true, true_and, and_true, Nat.reduceLeDiff, toDs, toDk, toDs_sh, ↓zS_ownO, ↓zS_ii, ↓zS_bi, ↓zS_tt, ↓zS_ll, ↓zS_ss, ↓zS_isC, ↓zS_isCD, ↓zS_ms, ↓zS_c1, ↓zS_c2, ↓zS_iis, ↓zS_iii, ↓zS_ibi, ↓zS_iib, ↓zS_ibb, ↓zS_iin, ↓zS_iil, ↓zS_iit, ↓zS_iid, ↓zS_isI, ↓zS_isb, ↓zS_isn, ↓zS_isl, ↓zS_ist, ↓zS_isd, ↓zS_tus, ↓zS_tui, ↓zS_tub, ↓zS_tun, ↓zS_tul, ↓zS_tud]
  obtain ⟨x, ex, ox⟩ := sr_str hs
  obtain ⟨y, ey, oy⟩ := sr_str ht
  obtain ⟨x', ex', ox'⟩ := sr_str hs'
  obtain ⟨y', ey', oy'⟩ := sr_str ht'
  have hq : Q (.bl (decide (x = x') && decide (y = y'))) := by
    have e1 : srS s = x := by unfold srS; rw [ex]
    have e2 : srS t = y := by unfold srS; rw [ey]
    have e3 : srS s' = x' := by unfold srS; rw [ex']
    have e4 : srS t' = y' := by unfold srS; rw [ey']
    rw [e1, e2, e3, e4] at hq
    exact hq
  rw [ex, ey, ex', ey']
  have pl : ∀ {x y : Str}, PyData.strOk x = true → PyData.strOk y = true → DL.plain (.lst [.str x, .str y]) = true := by
    intro x y ox oy
    have fn : D.fine (.lst [.str x, .str y]) = true := by simp [D.fine, fineL, ox, oy]
    unfold DL.plain
    rw [fn]
    simp [D.dep, depL]
  refine ⟨⟨pl ox oy, pl ox' oy'⟩, ?_⟩
  have e1 : ∀ a b : Str, eqb (.str a) (.str b) = decide (a = b) := fun a b => by
    have : eqb (.str a) (.str b) = (a == b) := by simp only [eqb, D.py, PyData.eqv]
    rw [this, Bool.eq_iff_iff, beq_iff_eq, decide_eq_true_iff]
  rw [eqb_cons, eqb_cons, eqb_nil, Bool.and_true, e1, e1]
  exact hq
theorem ceq_non (h : ∀ (c : Nat) (fs : List D), d ≠ .obj c fs) (hp : pureD d = true) (hq : Q (.bl false)) : S_Colours___eq__ [co s t, d] Q := by
  refine ⟨rfl, ?_⟩
  show t_Colours___eq__ _ [some (.sh (co s t)), some (.sh d), none, none, none]
  simp only [t_Colours___eq__, ↓zHd0, zHp0, ↓zGd0, ↓zGd1, ↓zGd2, ↓zGd3, ↓zGd4, zGp0, startD, ↓List.map_cons, ↓List.map_nil, ↓List.length_cons, ↓List.length_nil, Nat.reduceAdd, Nat.reduceSub, Nat.sub_self, List.replicate, ↓List.cons_append, ↓List.nil_append, List.append_nil, ↓List.getElem?_cons_zero, ↓List.getElem?_cons_succ, ↓List.set_cons_zero, ↓List.set_cons_succ, wipeD, Bool.not_true, Bool.not_false, decide_true, decide_false, beq_self_eq_true, true_and, and_true, Nat.reduceLeDiff, toDs, toDk, toDs_sh, ↓zS_ownO, ↓zS_ii, ↓zS_bi, ↓zS_tt, ↓zS_ll, ↓zS_ss, ↓zS_isC, ↓zS_isCD, ↓zS_ms, ↓zS_c1, ↓zS_c2, ↓zS_iis, ↓zS_iii, ↓zS_ibi, ↓zS_iib, ↓zS_ibb, ↓zS_iin, ↓zS_iil, ↓zS_iit, ↓zS_iid, ↓zS_isI, ↓zS_isb, ↓zS_isn, ↓zS_isl, ↓zS_ist, ↓zS_isd, ↓zS_tus, ↓zS_tui, ↓zS_tub, ↓zS_tun, ↓zS_tul, ↓zS_tud]
  refine isCA_pure hp ?_
  simp only [↓zHd0, zHp0, ↓zGd0, ↓zGd1, ↓zGd2, ↓zGd3, ↓zGd4, zGp0, startD, ↓List.map_cons, ↓List.map_nil, ↓List.length_cons, ↓List.length_nil, Nat.reduceAdd, Nat.reduceSub, Nat.sub_self, List.replicate, ↓List.cons_append, ↓List.nil_append, List.append_nil, ↓List.getElem?_cons_zero, ↓List.getElem?_cons_succ, ↓List.set_cons_zero, ↓List.set_cons_succ, wipeD, Bool.not_true, Bool.not_false, decide_true, decide_false, beq_self_eq_true, true_and, and_true, Nat.reduceLeDiff, toDs, toDk, toDs_sh, ↓zS_ownO, ↓zS_ii, ↓zS_bi, ↓zS_tt, ↓zS_ll, ↓zS_ss, ↓zS_isC, ↓zS_isCD, ↓zS_ms, ↓zS_c1, ↓zS_c2, ↓zS_iis, ↓zS_iii, ↓zS_ibi, ↓zS_iib, ↓zS_ibb, ↓zS_iin, ↓zS_iil, ↓zS_iit, ↓zS_iid, ↓zS_isI, ↓zS_isb, ↓zS_isn, ↓zS_isl, ↓zS_ist, ↓zS_isd, ↓zS_tus, ↓zS_tui, ↓zS_tub, ↓zS_tun, ↓zS_tul, ↓zS_tud]
  exact hq
theorem eqb_strs (a b : Nat) : eqb (sg a) (sg b) = decide (a = b) := by
  have : eqb (sg a) (sg b) = ((⟨#[a]⟩ : Str) == ⟨#[b]⟩) := by
    show eqb (.str ⟨#[a]⟩) (.str ⟨#[b]⟩) = _
    simp only [eqb, D.py, PyData.eqv]
  rw [this, Bool.eq_iff_iff, beq_iff_eq, decide_eq_true_iff]
  constructor
  · intro h
    have := congrArg (fun z : Str => z.cps.toList) h
    simpa using this
  · intro h; rw [h]
theorem plain_sgs {l : List Nat} (h : ∀ c ∈ l, isLet c = true) : DL.plain (.lst (l.map sg)) = true := by
  obtain ⟨f1, f2⟩ := fine_strs (l := l) fun c hc => let_ok (l := [c]) fun z hz => by rw [List.mem_singleton.mp hz]; exact h c hc
  unfold DL.plain
  rw [D.fine, show l.map sg = l.map fun c => D.str ⟨#[c]⟩ from rfl, f1, D.dep, f2]
  rfl
theorem mine_ok {b : Bool} {R : List D → Prop} {δ : DS} {x : Str} {i : Nat} {te : DE} (hte : ∀ k : Nat, ∀ R : D → Prop, R (sg (chr x k)) → te (δ.set i (some (.sh (.int (0 + (k : Int)))))) R) (hR : R (((List.range 60).map (chr x)).map sg)) : lcD (gN i) dYes te δ R (ups 0 (Int.toNat 60)) [] := by
  rw [show ups 0 (Int.toNat 60) = (List.range 60).map fun k : Nat => D.int (0 + (k : Int)) from by rw [show Int.toNat 60 = 60 from rfl, ups_map]]
  refine lc_of (α := Nat) (fun k => .int (0 + (k : Int))) (fun k => sg (chr x k)) (List.range 60) [] (fun k _ R hR => hte k R hR) ?_
  rw [List.nil_append]
  rw [List.map_map] at hR
  exact hR
theorem same_1 {W : DEnds} {b : Bool} {o4 o5 : Option SD} (hs : OkC s) (ht : OkC t) (hs' : OkC s') (ht' : OkC t') (h0 : sameB (if b then s else t) (if b then s' else t') = false → W.rt (.bl false)) (h1 : sameB (if b then s else t) (if b then s' else t') = true → ∀ o4 o5, W.nx [some (.sh (.lst [.str s, .str t])), some (.sh (.lst [.str s', .str t'])), some (.sh (.int 60)), some (.sh (.str (if b then Str.ofString "sun" else Str.ofString "moon"))), o4, o5]) :
    b__law_same_1 W [some (.sh (.lst [.str s, .str t])), some (.sh (.lst [.str s', .str t'])), some (.sh (.int 60)), some (.sh (.str (if b then Str.ofString "sun" else Str.ofString "moon"))), o4, o5] := by
  have hx : OkC (if b then s else t) := by cases b <;> assumption
  have hx' : OkC (if b then s' else t') := by cases b <;> assumption
  simp only [b__law_same_1, ↓zHd0, zHp0, ↓zGd0, ↓zGd1, ↓zGd2, ↓zGd3, ↓zGd4, zGp0, startD, ↓List.map_cons, ↓List.map_nil, ↓List.length_cons, ↓List.length_nil, Nat.reduceAdd, Nat.reduceSub, Nat.sub_self, List.replicate, ↓List.cons_append, ↓List.nil_append, List.append_nil, ↓List.getElem?_cons_zero, ↓List.getElem?_cons_succ, ↓List.set_cons_zero, ↓List.set_cons_succ, wipeD, Bool.not_true, Bool.not_false, decide_true, decide_false, beq_self_eq_true, true_and, and_true, Nat.reduceLeDiff, toDs, toDk, toDs_sh, ↓zS_ownO, ↓zS_ii, ↓zS_bi, ↓zS_tt, ↓zS_ll, ↓zS_ss, ↓zS_isC, ↓zS_isCD, ↓zS_ms, ↓zS_c1, ↓zS_c2, ↓zS_iis, ↓zS_iii, ↓zS_ibi, ↓zS_iib, ↓zS_ibb, ↓zS_iin, ↓zS_iil, ↓zS_iit, ↓zS_iid, ↓zS_isI, ↓zS_isb, ↓zS_isn, ↓zS_isl, ↓zS_ist, ↓zS_isd, ↓zS_tus, ↓zS_tui, ↓zS_tub, ↓zS_tun, ↓zS_tul, ↓zS_tud]
  refine ⟨⟨by decide, by decide⟩, by rw [ups_len]; decide, mine_ok (b := b) (x := if b then s else t) (fun k R hR => ?_) ?_⟩
  · simp only [↓zHd0, zHp0, ↓zGd0, ↓zGd1, ↓zGd2, ↓zGd3, ↓zGd4, zGp0, startD, ↓List.map_cons, ↓List.map_nil, ↓List.length_cons, ↓List.length_nil, Nat.reduceAdd, Nat.reduceSub, Nat.sub_self, List.replicate, ↓List.cons_append, ↓List.nil_append, List.append_nil, ↓List.getElem?_cons_zero, ↓List.getElem?_cons_succ, ↓List.set_cons_zero, ↓List.set_cons_succ, wipeD, Bool.not_true, Bool.not_false, decide_true, decide_false, beq_self_eq_true, true_and, and_true, Nat.reduceLeDiff, toDs, toDk, toDs_sh, ↓zS_ownO, ↓zS_ii, ↓zS_bi, ↓zS_tt, ↓zS_ll, ↓zS_ss, ↓zS_isC, ↓zS_isCD, ↓zS_ms, ↓zS_c1, ↓zS_c2, ↓zS_iis, ↓zS_iii, ↓zS_ibi, ↓zS_iib, ↓zS_ibb, ↓zS_iin, ↓zS_iil, ↓zS_iit, ↓zS_iid, ↓zS_isI, ↓zS_isb, ↓zS_isn, ↓zS_isl, ↓zS_ist, ↓zS_isd, ↓zS_tus, ↓zS_tui, ↓zS_tub, ↓zS_tun, ↓zS_tul, ↓zS_tud]
    rw [Int.zero_add]
    exact myCol_ok hs ht hR
  simp only [_law_same_at_4, ↓zHd0, zHp0, ↓zGd0, ↓zGd1, ↓zGd2, ↓zGd3, ↓zGd4, zGp0, startD, ↓List.map_cons, ↓List.map_nil, ↓List.length_cons, ↓List.length_nil, Nat.reduceAdd, Nat.reduceSub, Nat.sub_self, List.replicate, ↓List.cons_append, ↓List.nil_append, List.append_nil, ↓List.getElem?_cons_zero, ↓List.getElem?_cons_succ, ↓List.set_cons_zero, ↓List.set_cons_succ, wipeD, Bool.not_true, Bool.not_false, decide_true, decide_false, beq_self_eq_true, true_and, and_true, Nat.reduceLeDiff, toDs, toDk, toDs_sh, ↓zS_ownO, ↓zS_ii, ↓zS_bi, ↓zS_tt, ↓zS_ll, ↓zS_ss, ↓zS_isC, ↓zS_isCD, ↓zS_ms, ↓zS_c1, ↓zS_c2, ↓zS_iis, ↓zS_iii, ↓zS_ibi, ↓zS_iib, ↓zS_ibb, ↓zS_iin, ↓zS_iil, ↓zS_iit, ↓zS_iid, ↓zS_isI, ↓zS_isb, ↓zS_isn, ↓zS_isl, ↓zS_ist, ↓zS_isd, ↓zS_tus, ↓zS_tui, ↓zS_tub, ↓zS_tun, ↓zS_tul, ↓zS_tud]
  refine ⟨⟨by decide, by decide⟩, by rw [ups_len]; decide, mine_ok (b := b) (x := if b then s' else t') (fun k R hR => ?_) ?_⟩
  · simp only [↓zHd0, zHp0, ↓zGd0, ↓zGd1, ↓zGd2, ↓zGd3, ↓zGd4, zGp0, startD, ↓List.map_cons, ↓List.map_nil, ↓List.length_cons, ↓List.length_nil, Nat.reduceAdd, Nat.reduceSub, Nat.sub_self, List.replicate, ↓List.cons_append, ↓List.nil_append, List.append_nil, ↓List.getElem?_cons_zero, ↓List.getElem?_cons_succ, ↓List.set_cons_zero, ↓List.set_cons_succ, wipeD, Bool.not_true, Bool.not_false, decide_true, decide_false, beq_self_eq_true, true_and, and_true, Nat.reduceLeDiff, toDs, toDk, toDs_sh, ↓zS_ownO, ↓zS_ii, ↓zS_bi, ↓zS_tt, ↓zS_ll, ↓zS_ss, ↓zS_isC, ↓zS_isCD, ↓zS_ms, ↓zS_c1, ↓zS_c2, ↓zS_iis, ↓zS_iii, ↓zS_ibi, ↓zS_iib, ↓zS_ibb, ↓zS_iin, ↓zS_iil, ↓zS_iit, ↓zS_iid, ↓zS_isI, ↓zS_isb, ↓zS_isn, ↓zS_isl, ↓zS_ist, ↓zS_isd, ↓zS_tus, ↓zS_tui, ↓zS_tub, ↓zS_tun, ↓zS_tul, ↓zS_tud]
    rw [Int.zero_add]
    exact myCol_ok hs' ht' hR
  have le : ∀ {x : Str}, OkC x → ∀ c ∈ (List.range 60).map (chr x), isLet c = true := fun hx c hc => by
    obtain ⟨k, _, rfl⟩ := List.mem_map.mp hc
    exact chr_let hx k
  refine ⟨⟨plain_sgs (le hx), plain_sgs (le hx')⟩, ?_⟩
  rw [eqb_map eqb_strs]
  cases e : sameB (if b then s else t) (if b then s' else t') with
  | true =>
    have e' : decide ((List.range 60).map (chr (if b then s else t)) = (List.range 60).map (chr (if b then s' else t'))) = true := e
    rw [e']
    simp only [↓zHd0, zHp0, ↓zGd0, ↓zGd1, ↓zGd2, ↓zGd3, ↓zGd4, zGp0, startD, ↓List.map_cons, ↓List.map_nil, ↓List.length_cons, ↓List.length_nil, Nat.reduceAdd, Nat.reduceSub, Nat.sub_self, List.replicate, ↓List.cons_append, ↓List.nil_append, List.append_nil, ↓List.getElem?_cons_zero, ↓List.getElem?_cons_succ, ↓List.set_cons_zero, ↓List.set_cons_succ, wipeD, Bool.not_true, Bool.not_false, decide_true, decide_false, beq_self_eq_true, true_and, and_true, Nat.reduceLeDiff, toDs, toDk, toDs_sh, ↓zS_ownO, ↓zS_ii, ↓zS_bi, ↓zS_tt, ↓zS_ll, ↓zS_ss, ↓zS_isC, ↓zS_isCD, ↓zS_ms, ↓zS_c1, ↓zS_c2, ↓zS_iis, ↓zS_iii, ↓zS_ibi, ↓zS_iib, ↓zS_ibb, ↓zS_iin, ↓zS_iil, ↓zS_iit, ↓zS_iid, ↓zS_isI, ↓zS_isb, ↓zS_isn, ↓zS_isl, ↓zS_ist, ↓zS_isd, ↓zS_tus, ↓zS_tui, ↓zS_tub, ↓zS_tun, ↓zS_tul, ↓zS_tud, Bool.not_true]
    exact h1 e _ _
  | false =>
    have e' : decide ((List.range 60).map (chr (if b then s else t)) = (List.range 60).map (chr (if b then s' else t'))) = false := e
    rw [e']
    simp only [↓zHd0, zHp0, ↓zGd0, ↓zGd1, ↓zGd2, ↓zGd3, ↓zGd4, zGp0, startD, ↓List.map_cons, ↓List.map_nil, ↓List.length_cons, ↓List.length_nil, Nat.reduceAdd, Nat.reduceSub, Nat.sub_self, List.replicate, ↓List.cons_append, ↓List.nil_append, List.append_nil, ↓List.getElem?_cons_zero, ↓List.getElem?_cons_succ, ↓List.set_cons_zero, ↓List.set_cons_succ, wipeD, Bool.not_true, Bool.not_false, decide_true, decide_false, beq_self_eq_true, true_and, and_true, Nat.reduceLeDiff, toDs, toDk, toDs_sh, ↓zS_ownO, ↓zS_ii, ↓zS_bi, ↓zS_tt, ↓zS_ll, ↓zS_ss, ↓zS_isC, ↓zS_isCD, ↓zS_ms, ↓zS_c1, ↓zS_c2, ↓zS_iis, ↓zS_iii, ↓zS_ibi, ↓zS_iib, ↓zS_ibb, ↓zS_iin, ↓zS_iil, ↓zS_iit, ↓zS_iid, ↓zS_isI, ↓zS_isb, ↓zS_isn, ↓zS_isl, ↓zS_ist, ↓zS_isd, ↓zS_tus, ↓zS_tui, ↓zS_tub, ↓zS_tun, ↓zS_tul, ↓zS_tud, Bool.not_false]
    exact h0 e
theorem same_ok (hs : OkC s) (ht : OkC t) (hs' : OkC s') (ht' : OkC t') (hq : Q (.bl (sameB s s' && sameB t t'))) : S__law_same [.lst [.str s, .str t], .lst [.str s', .str t']] Q := by
  refine ⟨rfl, ?_⟩
  show t__law_same _ [some (.sh (.lst [.str s, .str t])), some (.sh (.lst [.str s', .str t'])), none, none, none, none]
  simp only [t__law_same, ↓zHd0, zHp0, ↓zGd0, ↓zGd1, ↓zGd2, ↓zGd3, ↓zGd4, zGp0, startD, ↓List.map_cons, ↓List.map_nil, ↓List.length_cons, ↓List.length_nil, Nat.reduceAdd, Nat.reduceSub, Nat.sub_self, List.replicate, ↓List.cons_append, ↓List.nil_append, List.append_nil, ↓List.getElem?_cons_zero, ↓List.getElem?_cons_succ, ↓List.set_cons_zero, ↓List.set_cons_succ, wipeD, Bool.not_true, Bool.not_false, decide_true, decide_false, beq_self_eq_true, true_and, and_true, Nat.reduceLeDiff, toDs, toDk, toDs_sh, ↓zS_ownO, ↓zS_ii, ↓zS_bi, ↓zS_tt, ↓zS_ll, ↓zS_ss, ↓zS_isC, ↓zS_isCD, ↓zS_ms, ↓zS_c1, ↓zS_c2, ↓zS_iis, ↓zS_iii, ↓zS_ibi, ↓zS_iib, ↓zS_ibb, ↓zS_iin, ↓zS_iil, ↓zS_iit, ↓zS_iid, ↓zS_isI, ↓zS_isb, ↓zS_isn, ↓zS_isl, ↓zS_ist, ↓zS_isd, ↓zS_tus, ↓zS_tui, ↓zS_tub, ↓zS_tun, ↓zS_tul, ↓zS_tud]
  simp only [_law_same_at_2, ↓zHd0, zHp0, ↓zGd0, ↓zGd1, ↓zGd2, ↓zGd3, ↓zGd4, zGp0, startD, ↓List.map_cons, ↓List.map_nil, ↓List.length_cons, ↓List.length_nil, Nat.reduceAdd, Nat.reduceSub, Nat.sub_self, List.replicate, ↓List.cons_append, ↓List.nil_append, List.append_nil, ↓List.getElem?_cons_zero, ↓List.getElem?_cons_succ, ↓List.set_cons_zero, ↓List.set_cons_succ, wipeD, Bool.not_true, Bool.not_false, decide_true, decide_false, beq_self_eq_true, true_and, and_true, Nat.reduceLeDiff, toDs, toDk, toDs_sh, ↓zS_ownO, ↓zS_ii, ↓zS_bi, ↓zS_tt, ↓zS_ll, ↓zS_ss, ↓zS_isC, ↓zS_isCD, ↓zS_ms, ↓zS_c1, ↓zS_c2, ↓zS_iis, ↓zS_iii, ↓zS_ibi, ↓zS_iib, ↓zS_ibb, ↓zS_iin, ↓zS_iil, ↓zS_iit, ↓zS_iid, ↓zS_isI, ↓zS_isb, ↓zS_isn, ↓zS_isl, ↓zS_ist, ↓zS_isd, ↓zS_tus, ↓zS_tui, ↓zS_tub, ↓zS_tun, ↓zS_tul, ↓zS_tud]
  rw [forD_c]
  simp only [↓zHd0, zHp0, ↓zGd0, ↓zGd1, ↓zGd2, ↓zGd3, ↓zGd4, zGp0, startD, ↓List.map_cons, ↓List.map_nil, ↓List.length_cons, ↓List.length_nil, Nat.reduceAdd, Nat.reduceSub, Nat.sub_self, List.replicate, ↓List.cons_append, ↓List.nil_append, List.append_nil, ↓List.getElem?_cons_zero, ↓List.getElem?_cons_succ, ↓List.set_cons_zero, ↓List.set_cons_succ, wipeD, Bool.not_true, Bool.not_false, decide_true, decide_false, beq_self_eq_true, true_and, and_true, Nat.reduceLeDiff, toDs, toDk, toDs_sh, ↓zS_ownO, ↓zS_ii, ↓zS_bi, ↓zS_tt, ↓zS_ll, ↓zS_ss, ↓zS_isC, ↓zS_isCD, ↓zS_ms, ↓zS_c1, ↓zS_c2, ↓zS_iis, ↓zS_iii, ↓zS_ibi, ↓zS_iib, ↓zS_ibb, ↓zS_iin, ↓zS_iil, ↓zS_iit, ↓zS_iid, ↓zS_isI, ↓zS_isb, ↓zS_isn, ↓zS_isl, ↓zS_ist, ↓zS_isd, ↓zS_tus, ↓zS_tui, ↓zS_tub, ↓zS_tun, ↓zS_tul, ↓zS_tud]
  refine same_1 (b := true) hs ht hs' ht' (fun e => ?_) (fun e o4 o5 => ?_)
  · simp only [if_true] at e
    rw [e, Bool.false_and] at hq
    exact hq
  simp only [if_true] at e
  rw [e, Bool.true_and] at hq
  simp only [forD_c, ↓zHd0, zHp0, ↓zGd0, ↓zGd1, ↓zGd2, ↓zGd3, ↓zGd4, zGp0, startD, ↓List.map_cons, ↓List.map_nil, ↓List.length_cons, ↓List.length_nil, Nat.reduceAdd, Nat.reduceSub, Nat.sub_self, List.replicate, ↓List.cons_append, ↓List.nil_append, List.append_nil, ↓List.getElem?_cons_zero, ↓List.getElem?_cons_succ, ↓List.set_cons_zero, ↓List.set_cons_succ, wipeD, Bool.not_true, Bool.not_false, decide_true, decide_false, beq_self_eq_true, true_and, and_true, Nat.reduceLeDiff, toDs, toDk, toDs_sh, ↓zS_ownO, ↓zS_ii, ↓zS_bi, ↓zS_tt, ↓zS_ll, ↓zS_ss, ↓zS_isC, ↓zS_isCD, ↓zS_ms, ↓zS_c1, ↓zS_c2, ↓zS_iis, ↓zS_iii, ↓zS_ibi, ↓zS_iib, ↓zS_ibb, ↓zS_iin, ↓zS_iil, ↓zS_iit, ↓zS_iid, ↓zS_isI, ↓zS_isb, ↓zS_isn, ↓zS_isl, ↓zS_ist, ↓zS_isd, ↓zS_tus, ↓zS_tui, ↓zS_tub, ↓zS_tun, ↓zS_tul, ↓zS_tud]
  refine same_1 (b := false) hs ht hs' ht' (fun e => ?_) (fun e o4 o5 => ?_)
  · simp only [Bool.false_eq_true, if_false] at e
    rw [e] at hq
    exact hq
  simp only [Bool.false_eq_true, if_false] at e
  rw [e] at hq
  simp only [forD_n, _law_same_at_6, ↓zHd0, zHp0, ↓zGd0, ↓zGd1, ↓zGd2, ↓zGd3, ↓zGd4, zGp0, startD, ↓List.map_cons, ↓List.map_nil, ↓List.length_cons, ↓List.length_nil, Nat.reduceAdd, Nat.reduceSub, Nat.sub_self, List.replicate, ↓List.cons_append, ↓List.nil_append, List.append_nil, ↓List.getElem?_cons_zero, ↓List.getElem?_cons_succ, ↓List.set_cons_zero, ↓List.set_cons_succ, wipeD, Bool.not_true, Bool.not_false, decide_true, decide_false, beq_self_eq_true, true_and, and_true, Nat.reduceLeDiff, toDs, toDk, toDs_sh, ↓zS_ownO, ↓zS_ii, ↓zS_bi, ↓zS_tt, ↓zS_ll, ↓zS_ss, ↓zS_isC, ↓zS_isCD, ↓zS_ms, ↓zS_c1, ↓zS_c2, ↓zS_iis, ↓zS_iii, ↓zS_ibi, ↓zS_iib, ↓zS_ibb, ↓zS_iin, ↓zS_iil, ↓zS_iit, ↓zS_iid, ↓zS_isI, ↓zS_isb, ↓zS_isn, ↓zS_isl, ↓zS_ist, ↓zS_isd, ↓zS_tus, ↓zS_tui, ↓zS_tub, ↓zS_tun, ↓zS_tul, ↓zS_tud]
  exact hq
end
section
variable {s t s' t' : Str} {Q : D → Prop} {d a b : D} {Wx : XW} {W : DEnds}
abbrev Sr (s t : Str) (o3 o4 o5 o6 o7 o8 o9 : Option SD) : DS := [some (.sh .bag), some (.sh (.lst [.str s, .str t])), some (.sh (co s t)), o3, o4, o5, o6, o7, o8, o9]
theorem hd_rib {z : D} : hd__law_refused 24 (Str.ofString "ribbon") z = some (.tup [.str (Str.ofString "none"), z]) := by
  simp [hd__law_refused]
theorem hd_wr {z : D} : hd__law_refused 21 (Str.ofString "place") z = some (.tup [.str (Str.ofString "wrong"), z]) := by
  simp [hd__law_refused]
theorem plain_one {c : Nat} (h : isLet c = true) : DL.plain (.str ⟨#[c]⟩) = true := by
  have := let_ok (l := [c]) fun z hz => by rw [List.mem_singleton.mp hz]; exact h
  unfold DL.plain
  rw [D.fine, show PyData.strOk ⟨#[c]⟩ = true from this]
  rfl
theorem right_11 {o3 o4 o6 o7 o8 o9 : Option SD} (h : okX d = true) (hv : ribK d = false) (hN : W.nx (Sr s t o3 o4 (some (.sh d)) o6 o7 o8 o9)) : _law_right_at_11 W (Sr s t o3 o4 (some (.sh d)) o6 o7 o8 o9) := by
  simp only [_law_right_at_11, ↓zHd0, zHp0, ↓zGd0, ↓zGd1, ↓zGd2, ↓zGd3, ↓zGd4, zGp0, startD, ↓List.map_cons, ↓List.map_nil, ↓List.length_cons, ↓List.length_nil, Nat.reduceAdd, Nat.reduceSub, Nat.sub_self, List.replicate, ↓List.cons_append, ↓List.nil_append, List.append_nil, ↓List.getElem?_cons_zero, ↓List.getElem?_cons_succ, ↓List.set_cons_zero, ↓List.set_cons_succ, wipeD, Bool.not_true, Bool.not_false, decide_true, decide_false, beq_self_eq_true, true_and, and_true, Nat.reduceLeDiff, toDs, toDk, toDs_sh, ↓zS_ownO, ↓zS_ii, ↓zS_bi, ↓zS_tt, ↓zS_ll, ↓zS_ss, ↓zS_isC, ↓zS_isCD, ↓zS_ms, ↓zS_c1, ↓zS_c2, ↓zS_iis, ↓zS_iii, ↓zS_ibi, ↓zS_iib, ↓zS_ibb, ↓zS_iin, ↓zS_iil, ↓zS_iit, ↓zS_iid, ↓zS_isI, ↓zS_isb, ↓zS_isn, ↓zS_isl, ↓zS_ist, ↓zS_isd, ↓zS_tus, ↓zS_tui, ↓zS_tub, ↓zS_tun, ↓zS_tul, ↓zS_tud]
  refine shownx_no h hv ⟨rfl, _, hd_rib, ?_⟩
  try simp only [↓zHd0, zHp0, ↓zGd0, ↓zGd1, ↓zGd2, ↓zGd3, ↓zGd4, zGp0, startD, ↓List.map_cons, ↓List.map_nil, ↓List.length_cons, ↓List.length_nil, Nat.reduceAdd, Nat.reduceSub, Nat.sub_self, List.replicate, ↓List.cons_append, ↓List.nil_append, List.append_nil, ↓List.getElem?_cons_zero, ↓List.getElem?_cons_succ, ↓List.set_cons_zero, ↓List.set_cons_succ, wipeD, Bool.not_true, Bool.not_false, decide_true, decide_false, beq_self_eq_true, true_and, and_true, Nat.reduceLeDiff, toDs, toDk, toDs_sh, ↓zS_ownO, ↓zS_ii, ↓zS_bi, ↓zS_tt, ↓zS_ll, ↓zS_ss, ↓zS_isC, ↓zS_isCD, ↓zS_ms, ↓zS_c1, ↓zS_c2, ↓zS_iis, ↓zS_iii, ↓zS_ibi, ↓zS_iib, ↓zS_ibb, ↓zS_iin, ↓zS_iil, ↓zS_iit, ↓zS_iid, ↓zS_isI, ↓zS_isb, ↓zS_isn, ↓zS_isl, ↓zS_ist, ↓zS_isd, ↓zS_tus, ↓zS_tui, ↓zS_tub, ↓zS_tun, ↓zS_tul, ↓zS_tud]
  have hr : richX (.tup [.str (Str.ofString "none"), d]) = true := by
    obtain ⟨h1, h2, h3⟩ := okX_p h
    have e : PyData.strOk (Str.ofString "none") = true := by decide +kernel
    have e2 : (Str.ofString "none").length = 4 := by decide +kernel
    unfold richX
    simp [rich, richs, h1, e, depX, depXs, wtX, wtXs, e2]
    omega
  refine alike_richT hr ?_
  simp only [↓zHd0, zHp0, ↓zGd0, ↓zGd1, ↓zGd2, ↓zGd3, ↓zGd4, zGp0, startD, ↓List.map_cons, ↓List.map_nil, ↓List.length_cons, ↓List.length_nil, Nat.reduceAdd, Nat.reduceSub, Nat.sub_self, List.replicate, ↓List.cons_append, ↓List.nil_append, List.append_nil, ↓List.getElem?_cons_zero, ↓List.getElem?_cons_succ, ↓List.set_cons_zero, ↓List.set_cons_succ, wipeD, Bool.not_true, Bool.not_false, decide_true, decide_false, beq_self_eq_true, true_and, and_true, Nat.reduceLeDiff, toDs, toDk, toDs_sh, ↓zS_ownO, ↓zS_ii, ↓zS_bi, ↓zS_tt, ↓zS_ll, ↓zS_ss, ↓zS_isC, ↓zS_isCD, ↓zS_ms, ↓zS_c1, ↓zS_c2, ↓zS_iis, ↓zS_iii, ↓zS_ibi, ↓zS_iib, ↓zS_ibb, ↓zS_iin, ↓zS_iil, ↓zS_iit, ↓zS_iid, ↓zS_isI, ↓zS_isb, ↓zS_isn, ↓zS_isl, ↓zS_ist, ↓zS_isd, ↓zS_tus, ↓zS_tui, ↓zS_tub, ↓zS_tun, ↓zS_tul, ↓zS_tud]
  exact hN
theorem pick_at {xs : List D} {a : Int} {Q : D → Prop} (a0 : 0 ≤ a) (a1 : a < xs.length) (h : ∀ d ∈ xs, Q d) : oIx (.lst xs) (.int a) Q := by
  show (match atI xs a with | some d => Q d | none => False)
  obtain ⟨k, rfl⟩ : ∃ k : Nat, a = k := ⟨a.toNat, by omega⟩
  have hk : k < xs.length := by omega
  have e : atI xs (k : Int) = some xs[k] := atI_q (by omega) (by rw [Int.toNat_natCast]; exact List.getElem?_eq_getElem hk)
  rw [e]
  exact h _ (List.getElem_mem hk)
theorem right_8 {o3 o4 o5 o6 o7 o8 o9 : Option SD} (hN : ∀ o5, W.nx (Sr s t o3 o4 o5 o6 o7 o8 o9)) : _law_right_at_8 W (Sr s t o3 o4 o5 o6 o7 o8 o9) := by
  simp only [_law_right_at_8, ↓zHd0, zHp0, ↓zGd0, ↓zGd1, ↓zGd2, ↓zGd3, ↓zGd4, zGp0, startD, ↓List.map_cons, ↓List.map_nil, ↓List.length_cons, ↓List.length_nil, Nat.reduceAdd, Nat.reduceSub, Nat.sub_self, List.replicate, ↓List.cons_append, ↓List.nil_append, List.append_nil, ↓List.getElem?_cons_zero, ↓List.getElem?_cons_succ, ↓List.set_cons_zero, ↓List.set_cons_succ, wipeD, Bool.not_true, Bool.not_false, decide_true, decide_false, beq_self_eq_true, true_and, and_true, Nat.reduceLeDiff, toDs, toDk, toDs_sh, ↓zS_ownO, ↓zS_ii, ↓zS_bi, ↓zS_tt, ↓zS_ll, ↓zS_ss, ↓zS_isC, ↓zS_isCD, ↓zS_ms, ↓zS_c1, ↓zS_c2, ↓zS_iis, ↓zS_iii, ↓zS_ibi, ↓zS_iib, ↓zS_ibb, ↓zS_iin, ↓zS_iil, ↓zS_iit, ↓zS_iid, ↓zS_isI, ↓zS_isb, ↓zS_isn, ↓zS_isl, ↓zS_ist, ↓zS_isd, ↓zS_tus, ↓zS_tui, ↓zS_tub, ↓zS_tun, ↓zS_tul, ↓zS_tud]
  simp only [_law_right_at_9, ↓zHd0, zHp0, ↓zGd0, ↓zGd1, ↓zGd2, ↓zGd3, ↓zGd4, zGp0, startD, ↓List.map_cons, ↓List.map_nil, ↓List.length_cons, ↓List.length_nil, Nat.reduceAdd, Nat.reduceSub, Nat.sub_self, List.replicate, ↓List.cons_append, ↓List.nil_append, List.append_nil, ↓List.getElem?_cons_zero, ↓List.getElem?_cons_succ, ↓List.set_cons_zero, ↓List.set_cons_succ, wipeD, Bool.not_true, Bool.not_false, decide_true, decide_false, beq_self_eq_true, true_and, and_true, Nat.reduceLeDiff, toDs, toDk, toDs_sh, ↓zS_ownO, ↓zS_ii, ↓zS_bi, ↓zS_tt, ↓zS_ll, ↓zS_ss, ↓zS_isC, ↓zS_isCD, ↓zS_ms, ↓zS_c1, ↓zS_c2, ↓zS_iis, ↓zS_iii, ↓zS_ibi, ↓zS_iib, ↓zS_ibb, ↓zS_iin, ↓zS_iil, ↓zS_iit, ↓zS_iid, ↓zS_isI, ↓zS_isb, ↓zS_isn, ↓zS_isl, ↓zS_ist, ↓zS_isd, ↓zS_tus, ↓zS_tui, ↓zS_tub, ↓zS_tun, ↓zS_tul, ↓zS_tud]
  simp only [_law_right_at_10, ↓zHd0, zHp0, ↓zGd0, ↓zGd1, ↓zGd2, ↓zGd3, ↓zGd4, zGp0, startD, ↓List.map_cons, ↓List.map_nil, ↓List.length_cons, ↓List.length_nil, Nat.reduceAdd, Nat.reduceSub, Nat.sub_self, List.replicate, ↓List.cons_append, ↓List.nil_append, List.append_nil, ↓List.getElem?_cons_zero, ↓List.getElem?_cons_succ, ↓List.set_cons_zero, ↓List.set_cons_succ, wipeD, Bool.not_true, Bool.not_false, decide_true, decide_false, beq_self_eq_true, true_and, and_true, Nat.reduceLeDiff, toDs, toDk, toDs_sh, ↓zS_ownO, ↓zS_ii, ↓zS_bi, ↓zS_tt, ↓zS_ll, ↓zS_ss, ↓zS_isC, ↓zS_isCD, ↓zS_ms, ↓zS_c1, ↓zS_c2, ↓zS_iis, ↓zS_iii, ↓zS_ibi, ↓zS_iib, ↓zS_ibb, ↓zS_iin, ↓zS_iil, ↓zS_iit, ↓zS_iid, ↓zS_isI, ↓zS_isb, ↓zS_isn, ↓zS_isl, ↓zS_ist, ↓zS_isd, ↓zS_tus, ↓zS_tui, ↓zS_tub, ↓zS_tun, ↓zS_tul, ↓zS_tud]
  refine ⟨by rw [sizeLine_eq]; decide, ⟨by decide, by decide +kernel⟩, fun a a0 a1 => ?_⟩
  refine pick_at a0 (by exact a1) fun d hd => ?_
  have all : ∀ d ∈ [D.tup [D.str (Str.ofString "sun"), D.int (-1)], D.tup [D.str (Str.ofString "moon"), D.bl true],
            D.lst [D.str (Str.ofString "sun"), D.int 0], D.tup [D.str (Str.ofString "sun")],
            D.tup [D.str (Str.ofString "Sun"), D.int 0], D.non,
            D.tup [D.str (Str.ofString "sun"), D.str (Str.ofString "0")], D.tup [D.lst [], D.int 0],
            D.tup [D.str (Str.ofString "sun"), D.int 0, D.int 0], D.tup [D.str (Str.ofString "moon"), D.int 1, D.non],
            D.int 5, D.dic []], (okX d && !ribK d) = true := by
    rw [← List.all_eq_true]
    decide +kernel
  obtain ⟨h1, h2⟩ := Bool.and_eq_true_iff.mp (all d hd)
  exact right_11 h1 (by simpa using h2) (hN _)
theorem right_1 {o3 o4 o5 o6 o7 o8 o9 : Option SD} (hs : OkC s) (ht : OkC t) (hN : ∀ o4 o5, W.nx (Sr s t o3 o4 o5 o6 o7 o8 o9)) : b__law_right_1 W (Sr s t o3 o4 o5 o6 o7 o8 o9) := by
  simp only [b__law_right_1, ↓zHd0, zHp0, ↓zGd0, ↓zGd1, ↓zGd2, ↓zGd3, ↓zGd4, zGp0, startD, ↓List.map_cons, ↓List.map_nil, ↓List.length_cons, ↓List.length_nil, Nat.reduceAdd, Nat.reduceSub, Nat.sub_self, List.replicate, ↓List.cons_append, ↓List.nil_append, List.append_nil, ↓List.getElem?_cons_zero, ↓List.getElem?_cons_succ, ↓List.set_cons_zero, ↓List.set_cons_succ, wipeD, Bool.not_true, Bool.not_false, decide_true, decide_false, beq_self_eq_true, true_and, and_true, Nat.reduceLeDiff, toDs, toDk, toDs_sh, ↓zS_ownO, ↓zS_ii, ↓zS_bi, ↓zS_tt, ↓zS_ll, ↓zS_ss, ↓zS_isC, ↓zS_isCD, ↓zS_ms, ↓zS_c1, ↓zS_c2, ↓zS_iis, ↓zS_iii, ↓zS_ibi, ↓zS_iib, ↓zS_ibb, ↓zS_iin, ↓zS_iil, ↓zS_iit, ↓zS_iid, ↓zS_isI, ↓zS_isb, ↓zS_isn, ↓zS_isl, ↓zS_ist, ↓zS_isd, ↓zS_tus, ↓zS_tui, ↓zS_tub, ↓zS_tun, ↓zS_tul, ↓zS_tud]
  refine ⟨⟨by decide, by decide +kernel⟩, fun a a0 a1 => ?_⟩
  have c10 : CPow 10 39 := ⟨by decide, by decide, by decide +kernel⟩
  have go : ∀ b : Bool, CPow 10 39 ∧ S__law_take [D.bag, D.int 9] fun y => oAdd (D.int (10 ^ Int.toNat 39)) y fun x_1 => S__law_pick [D.bag, D.lst [D.int 0, D.int 1, D.int 2, D.int 5, D.int 17, x_1]] fun x_2 => _law_right_at_6 W [some (SD.sh D.bag), some (SD.sh (D.lst [D.str s, D.str t])), some (SD.sh (co s t)), o3, some (SD.sh (D.tup [.str (if b then Str.ofString "sun" else Str.ofString "moon"), x_2])), o5, o6, o7, o8, o9] := by
    intro b
    refine ⟨c10, ⟨by decide, by decide +kernel⟩, fun c c0 c1 => ?_⟩
    simp only [↓zHd0, zHp0, ↓zGd0, ↓zGd1, ↓zGd2, ↓zGd3, ↓zGd4, zGp0, startD, ↓List.map_cons, ↓List.map_nil, ↓List.length_cons, ↓List.length_nil, Nat.reduceAdd, Nat.reduceSub, Nat.sub_self, List.replicate, ↓List.cons_append, ↓List.nil_append, List.append_nil, ↓List.getElem?_cons_zero, ↓List.getElem?_cons_succ, ↓List.set_cons_zero, ↓List.set_cons_succ, wipeD, Bool.not_true, Bool.not_false, decide_true, decide_false, beq_self_eq_true, true_and, and_true, Nat.reduceLeDiff, toDs, toDk, toDs_sh, ↓zS_ownO, ↓zS_ii, ↓zS_bi, ↓zS_tt, ↓zS_ll, ↓zS_ss, ↓zS_isC, ↓zS_isCD, ↓zS_ms, ↓zS_c1, ↓zS_c2, ↓zS_iis, ↓zS_iii, ↓zS_ibi, ↓zS_iib, ↓zS_ibb, ↓zS_iin, ↓zS_iil, ↓zS_iit, ↓zS_iid, ↓zS_isI, ↓zS_isb, ↓zS_isn, ↓zS_isl, ↓zS_ist, ↓zS_isd, ↓zS_tus, ↓zS_tui, ↓zS_tub, ↓zS_tun, ↓zS_tul, ↓zS_tud]
    refine ⟨⟨by show 0 < 6; decide, by show 6 ≤ 1000; decide⟩, fun d hd => ?_⟩
    obtain ⟨k, rfl⟩ : ∃ k : Nat, d = .int k := by
      have e : (10 : Int) ^ Int.toNat 39 + c = ((10 ^ 39 + c.toNat : Nat) : Int) := by
        rw [show Int.toNat 39 = 39 from rfl]
        omega
      rw [e] at hd
      simp only [List.mem_cons, List.not_mem_nil, or_false] at hd
      rcases hd with rfl | rfl | rfl | rfl | rfl | rfl
      · exact ⟨0, rfl⟩
      · exact ⟨1, rfl⟩
      · exact ⟨2, rfl⟩
      · exact ⟨5, rfl⟩
      · exact ⟨17, rfl⟩
      · exact ⟨_, rfl⟩
    have hx : OkC (if b then s else t) := by cases b <;> assumption
    simp only [_law_right_at_6, ↓zHd0, zHp0, ↓zGd0, ↓zGd1, ↓zGd2, ↓zGd3, ↓zGd4, zGp0, startD, ↓List.map_cons, ↓List.map_nil, ↓List.length_cons, ↓List.length_nil, Nat.reduceAdd, Nat.reduceSub, Nat.sub_self, List.replicate, ↓List.cons_append, ↓List.nil_append, List.append_nil, ↓List.getElem?_cons_zero, ↓List.getElem?_cons_succ, ↓List.set_cons_zero, ↓List.set_cons_succ, wipeD, Bool.not_true, Bool.not_false, decide_true, decide_false, beq_self_eq_true, true_and, and_true, Nat.reduceLeDiff, toDs, toDk, toDs_sh, ↓zS_ownO, ↓zS_ii, ↓zS_bi, ↓zS_tt, ↓zS_ll, ↓zS_ss, ↓zS_isC, ↓zS_isCD, ↓zS_ms, ↓zS_c1, ↓zS_c2, ↓zS_iis, ↓zS_iii, ↓zS_ibi, ↓zS_iib, ↓zS_ibb, ↓zS_iin, ↓zS_iil, ↓zS_iit, ↓zS_iid, ↓zS_isI, ↓zS_isb, ↓zS_isn, ↓zS_isl, ↓zS_ist, ↓zS_isd, ↓zS_tus, ↓zS_tui, ↓zS_tub, ↓zS_tun, ↓zS_tul, ↓zS_tud]
    refine shown_ok hs ht ?_
    try simp only [↓zHd0, zHp0, ↓zGd0, ↓zGd1, ↓zGd2, ↓zGd3, ↓zGd4, zGp0, startD, ↓List.map_cons, ↓List.map_nil, ↓List.length_cons, ↓List.length_nil, Nat.reduceAdd, Nat.reduceSub, Nat.sub_self, List.replicate, ↓List.cons_append, ↓List.nil_append, List.append_nil, ↓List.getElem?_cons_zero, ↓List.getElem?_cons_succ, ↓List.set_cons_zero, ↓List.set_cons_succ, wipeD, Bool.not_true, Bool.not_false, decide_true, decide_false, beq_self_eq_true, true_and, and_true, Nat.reduceLeDiff, toDs, toDk, toDs_sh, ↓zS_ownO, ↓zS_ii, ↓zS_bi, ↓zS_tt, ↓zS_ll, ↓zS_ss, ↓zS_isC, ↓zS_isCD, ↓zS_ms, ↓zS_c1, ↓zS_c2, ↓zS_iis, ↓zS_iii, ↓zS_ibi, ↓zS_iib, ↓zS_ibb, ↓zS_iin, ↓zS_iil, ↓zS_iit, ↓zS_iid, ↓zS_isI, ↓zS_isb, ↓zS_isn, ↓zS_isl, ↓zS_ist, ↓zS_isd, ↓zS_tus, ↓zS_tui, ↓zS_tub, ↓zS_tun, ↓zS_tul, ↓zS_tud]
    refine myCol_ok hs ht ?_
    try simp only [↓zHd0, zHp0, ↓zGd0, ↓zGd1, ↓zGd2, ↓zGd3, ↓zGd4, zGp0, startD, ↓List.map_cons, ↓List.map_nil, ↓List.length_cons, ↓List.length_nil, Nat.reduceAdd, Nat.reduceSub, Nat.sub_self, List.replicate, ↓List.cons_append, ↓List.nil_append, List.append_nil, ↓List.getElem?_cons_zero, ↓List.getElem?_cons_succ, ↓List.set_cons_zero, ↓List.set_cons_succ, wipeD, Bool.not_true, Bool.not_false, decide_true, decide_false, beq_self_eq_true, true_and, and_true, Nat.reduceLeDiff, toDs, toDk, toDs_sh, ↓zS_ownO, ↓zS_ii, ↓zS_bi, ↓zS_tt, ↓zS_ll, ↓zS_ss, ↓zS_isC, ↓zS_isCD, ↓zS_ms, ↓zS_c1, ↓zS_c2, ↓zS_iis, ↓zS_iii, ↓zS_ibi, ↓zS_iib, ↓zS_ibb, ↓zS_iin, ↓zS_iil, ↓zS_iit, ↓zS_iid, ↓zS_isI, ↓zS_isb, ↓zS_isn, ↓zS_isl, ↓zS_ist, ↓zS_isd, ↓zS_tus, ↓zS_tui, ↓zS_tub, ↓zS_tun, ↓zS_tul, ↓zS_tud]
    refine alike_same (plain_one (chr_let hx _)) (by show 10 * 1 + 2 ≤ 16000000; decide) ?_
    simp only [↓zHd0, zHp0, ↓zGd0, ↓zGd1, ↓zGd2, ↓zGd3, ↓zGd4, zGp0, startD, ↓List.map_cons, ↓List.map_nil, ↓List.length_cons, ↓List.length_nil, Nat.reduceAdd, Nat.reduceSub, Nat.sub_self, List.replicate, ↓List.cons_append, ↓List.nil_append, List.append_nil, ↓List.getElem?_cons_zero, ↓List.getElem?_cons_succ, ↓List.set_cons_zero, ↓List.set_cons_succ, wipeD, Bool.not_true, Bool.not_false, decide_true, decide_false, beq_self_eq_true, true_and, and_true, Nat.reduceLeDiff, toDs, toDk, toDs_sh, ↓zS_ownO, ↓zS_ii, ↓zS_bi, ↓zS_tt, ↓zS_ll, ↓zS_ss, ↓zS_isC, ↓zS_isCD, ↓zS_ms, ↓zS_c1, ↓zS_c2, ↓zS_iis, ↓zS_iii, ↓zS_ibi, ↓zS_iib, ↓zS_ibb, ↓zS_iin, ↓zS_iil, ↓zS_iit, ↓zS_iid, ↓zS_isI, ↓zS_isb, ↓zS_isn, ↓zS_isl, ↓zS_ist, ↓zS_isd, ↓zS_tus, ↓zS_tui, ↓zS_tub, ↓zS_tun, ↓zS_tul, ↓zS_tud]
    exact right_8 fun o5 => hN _ _
  refine pick_at a0 (by exact a1) fun d hd => ?_
  simp only [List.mem_cons, List.not_mem_nil, or_false] at hd
  rcases hd with rfl | rfl
  · exact go true
  · exact go false
theorem right_2 {o3 o4 o5 o6 o8 o9 : Option SD} (hs : OkC s) (ht : OkC t) (hs' : OkC s') (ht' : OkC t') (l1 : s.length + s'.length ≤ 60) (l2 : t.length + t'.length ≤ 60) (hN : ∀ o8 o9, W.nx (Sr s t o3 o4 o5 o6 (some (.sh (.lst [.str s', .str t']))) o8 o9)) : b__law_right_2 W (Sr s t o3 o4 o5 o6 (some (.sh (.lst [.str s', .str t']))) o8 o9) := by
  simp only [b__law_right_2, ↓zHd0, zHp0, ↓zGd0, ↓zGd1, ↓zGd2, ↓zGd3, ↓zGd4, zGp0, startD, ↓List.map_cons, ↓List.map_nil, ↓List.length_cons, ↓List.length_nil, Nat.reduceAdd, Nat.reduceSub, Nat.sub_self, List.replicate, ↓List.cons_append, ↓List.nil_append, List.append_nil, ↓List.getElem?_cons_zero, ↓List.getElem?_cons_succ, ↓List.set_cons_zero, ↓List.set_cons_succ, wipeD, Bool.not_true, Bool.not_false, decide_true, decide_false, beq_self_eq_true, true_and, and_true, Nat.reduceLeDiff, toDs, toDk, toDs_sh, ↓zS_ownO, ↓zS_ii, ↓zS_bi, ↓zS_tt, ↓zS_ll, ↓zS_ss, ↓zS_isC, ↓zS_isCD, ↓zS_ms, ↓zS_c1, ↓zS_c2, ↓zS_iis, ↓zS_iii, ↓zS_ibi, ↓zS_iib, ↓zS_ibb, ↓zS_iin, ↓zS_iil, ↓zS_iit, ↓zS_iid, ↓zS_isI, ↓zS_isb, ↓zS_isn, ↓zS_isl, ↓zS_ist, ↓zS_isd, ↓zS_tus, ↓zS_tui, ↓zS_tub, ↓zS_tun, ↓zS_tul, ↓zS_tud]
  refine colI_ok hs' ht' ?_
  try simp only [↓zHd0, zHp0, ↓zGd0, ↓zGd1, ↓zGd2, ↓zGd3, ↓zGd4, zGp0, startD, ↓List.map_cons, ↓List.map_nil, ↓List.length_cons, ↓List.length_nil, Nat.reduceAdd, Nat.reduceSub, Nat.sub_self, List.replicate, ↓List.cons_append, ↓List.nil_append, List.append_nil, ↓List.getElem?_cons_zero, ↓List.getElem?_cons_succ, ↓List.set_cons_zero, ↓List.set_cons_succ, wipeD, Bool.not_true, Bool.not_false, decide_true, decide_false, beq_self_eq_true, true_and, and_true, Nat.reduceLeDiff, toDs, toDk, toDs_sh, ↓zS_ownO, ↓zS_ii, ↓zS_bi, ↓zS_tt, ↓zS_ll, ↓zS_ss, ↓zS_isC, ↓zS_isCD, ↓zS_ms, ↓zS_c1, ↓zS_c2, ↓zS_iis, ↓zS_iii, ↓zS_ibi, ↓zS_iib, ↓zS_ibb, ↓zS_iin, ↓zS_iil, ↓zS_iit, ↓zS_iid, ↓zS_isI, ↓zS_isb, ↓zS_isn, ↓zS_isl, ↓zS_ist, ↓zS_isd, ↓zS_tus, ↓zS_tui, ↓zS_tub, ↓zS_tun, ↓zS_tul, ↓zS_tud]
  simp only [_law_right_at_16, ↓zHd0, zHp0, ↓zGd0, ↓zGd1, ↓zGd2, ↓zGd3, ↓zGd4, zGp0, startD, ↓List.map_cons, ↓List.map_nil, ↓List.length_cons, ↓List.length_nil, Nat.reduceAdd, Nat.reduceSub, Nat.sub_self, List.replicate, ↓List.cons_append, ↓List.nil_append, List.append_nil, ↓List.getElem?_cons_zero, ↓List.getElem?_cons_succ, ↓List.set_cons_zero, ↓List.set_cons_succ, wipeD, Bool.not_true, Bool.not_false, decide_true, decide_false, beq_self_eq_true, true_and, and_true, Nat.reduceLeDiff, toDs, toDk, toDs_sh, ↓zS_ownO, ↓zS_ii, ↓zS_bi, ↓zS_tt, ↓zS_ll, ↓zS_ss, ↓zS_isC, ↓zS_isCD, ↓zS_ms, ↓zS_c1, ↓zS_c2, ↓zS_iis, ↓zS_iii, ↓zS_ibi, ↓zS_iib, ↓zS_ibb, ↓zS_iin, ↓zS_iil, ↓zS_iit, ↓zS_iid, ↓zS_isI, ↓zS_isb, ↓zS_isn, ↓zS_isl, ↓zS_ist, ↓zS_isd, ↓zS_tus, ↓zS_tui, ↓zS_tub, ↓zS_tun, ↓zS_tul, ↓zS_tud]
  refine same_ok hs ht hs' ht' ?_
  try simp only [↓zHd0, zHp0, ↓zGd0, ↓zGd1, ↓zGd2, ↓zGd3, ↓zGd4, zGp0, startD, ↓List.map_cons, ↓List.map_nil, ↓List.length_cons, ↓List.length_nil, Nat.reduceAdd, Nat.reduceSub, Nat.sub_self, List.replicate, ↓List.cons_append, ↓List.nil_append, List.append_nil, ↓List.getElem?_cons_zero, ↓List.getElem?_cons_succ, ↓List.set_cons_zero, ↓List.set_cons_succ, wipeD, Bool.not_true, Bool.not_false, decide_true, decide_false, beq_self_eq_true, true_and, and_true, Nat.reduceLeDiff, toDs, toDk, toDs_sh, ↓zS_ownO, ↓zS_ii, ↓zS_bi, ↓zS_tt, ↓zS_ll, ↓zS_ss, ↓zS_isC, ↓zS_isCD, ↓zS_ms, ↓zS_c1, ↓zS_c2, ↓zS_iis, ↓zS_iii, ↓zS_ibi, ↓zS_iib, ↓zS_ibb, ↓zS_iin, ↓zS_iil, ↓zS_iit, ↓zS_iid, ↓zS_isI, ↓zS_isb, ↓zS_isn, ↓zS_isl, ↓zS_ist, ↓zS_isd, ↓zS_tus, ↓zS_tui, ↓zS_tub, ↓zS_tun, ↓zS_tul, ↓zS_tud]
  simp only [_law_right_at_17, ↓zHd0, zHp0, ↓zGd0, ↓zGd1, ↓zGd2, ↓zGd3, ↓zGd4, zGp0, startD, ↓List.map_cons, ↓List.map_nil, ↓List.length_cons, ↓List.length_nil, Nat.reduceAdd, Nat.reduceSub, Nat.sub_self, List.replicate, ↓List.cons_append, ↓List.nil_append, List.append_nil, ↓List.getElem?_cons_zero, ↓List.getElem?_cons_succ, ↓List.set_cons_zero, ↓List.set_cons_succ, wipeD, Bool.not_true, Bool.not_false, decide_true, decide_false, beq_self_eq_true, true_and, and_true, Nat.reduceLeDiff, toDs, toDk, toDs_sh, ↓zS_ownO, ↓zS_ii, ↓zS_bi, ↓zS_tt, ↓zS_ll, ↓zS_ss, ↓zS_isC, ↓zS_isCD, ↓zS_ms, ↓zS_c1, ↓zS_c2, ↓zS_iis, ↓zS_iii, ↓zS_ibi, ↓zS_iib, ↓zS_ibb, ↓zS_iin, ↓zS_iil, ↓zS_iit, ↓zS_iid, ↓zS_isI, ↓zS_isb, ↓zS_isn, ↓zS_isl, ↓zS_ist, ↓zS_isd, ↓zS_tus, ↓zS_tui, ↓zS_tub, ↓zS_tun, ↓zS_tul, ↓zS_tud]
  have e1 := same_root hs.l0 hs'.l0 l1
  have e2 := same_root ht.l0 ht'.l0 l2
  have e3 : (decide (srS s = srS s') && decide (srS t = srS t')) = (sameB s s' && sameB t t') := by
    congr 1
    · rw [Bool.eq_iff_iff, decide_eq_true_iff, srS_eq hs hs']; exact e1
    · rw [Bool.eq_iff_iff, decide_eq_true_iff, srS_eq ht ht']; exact e2
  have e4 : (decide (srS s' = srS s) && decide (srS t' = srS t)) = (sameB s s' && sameB t t') := by
    rw [← e3]
    congr 1
    · rw [Bool.eq_iff_iff, decide_eq_true_iff, decide_eq_true_iff]; exact eq_comm
    · rw [Bool.eq_iff_iff, decide_eq_true_iff, decide_eq_true_iff]; exact eq_comm
  generalize (sameB s s' && sameB t t') = z at e3 e4 ⊢
  refine ⟨.inl rfl, ceq_any hs ht hs' ht' ?_⟩
  rw [e3]
  refine ⟨.inl rfl, ceq_any hs' ht' hs ht ?_⟩
  rw [e4]
  refine ⟨.inl rfl, ceq_any hs ht hs' ht' ?_⟩
  rw [e3]
  cases z with
  | true =>
    simp only [↓zHd0, zHp0, ↓zGd0, ↓zGd1, ↓zGd2, ↓zGd3, ↓zGd4, zGp0, startD, ↓List.map_cons, ↓List.map_nil, ↓List.length_cons, ↓List.length_nil, Nat.reduceAdd, Nat.reduceSub, Nat.sub_self, List.replicate, ↓List.cons_append, ↓List.nil_append, List.append_nil, ↓List.getElem?_cons_zero, ↓List.getElem?_cons_succ, ↓List.set_cons_zero, ↓List.set_cons_succ, wipeD, Bool.not_true, Bool.not_false, decide_true, decide_false, beq_self_eq_true, true_and, and_true, Nat.reduceLeDiff, toDs, toDk, toDs_sh, ↓zS_ownO, ↓zS_ii, ↓zS_bi, ↓zS_tt, ↓zS_ll, ↓zS_ss, ↓zS_isC, ↓zS_isCD, ↓zS_ms, ↓zS_c1, ↓zS_c2, ↓zS_iis, ↓zS_iii, ↓zS_ibi, ↓zS_iib, ↓zS_ibb, ↓zS_iin, ↓zS_iil, ↓zS_iit, ↓zS_iid, ↓zS_isI, ↓zS_isb, ↓zS_isn, ↓zS_isl, ↓zS_ist, ↓zS_isd, ↓zS_tus, ↓zS_tui, ↓zS_tub, ↓zS_tun, ↓zS_tul, ↓zS_tud]
    refine alike_same (d := .lst [.bl true, .bl true, .bl false]) (by decide +kernel) (by decide +kernel) ?_
    simp only [↓zHd0, zHp0, ↓zGd0, ↓zGd1, ↓zGd2, ↓zGd3, ↓zGd4, zGp0, startD, ↓List.map_cons, ↓List.map_nil, ↓List.length_cons, ↓List.length_nil, Nat.reduceAdd, Nat.reduceSub, Nat.sub_self, List.replicate, ↓List.cons_append, ↓List.nil_append, List.append_nil, ↓List.getElem?_cons_zero, ↓List.getElem?_cons_succ, ↓List.set_cons_zero, ↓List.set_cons_succ, wipeD, Bool.not_true, Bool.not_false, decide_true, decide_false, beq_self_eq_true, true_and, and_true, Nat.reduceLeDiff, toDs, toDk, toDs_sh, ↓zS_ownO, ↓zS_ii, ↓zS_bi, ↓zS_tt, ↓zS_ll, ↓zS_ss, ↓zS_isC, ↓zS_isCD, ↓zS_ms, ↓zS_c1, ↓zS_c2, ↓zS_iis, ↓zS_iii, ↓zS_ibi, ↓zS_iib, ↓zS_ibb, ↓zS_iin, ↓zS_iil, ↓zS_iit, ↓zS_iid, ↓zS_isI, ↓zS_isb, ↓zS_isn, ↓zS_isl, ↓zS_ist, ↓zS_isd, ↓zS_tus, ↓zS_tui, ↓zS_tub, ↓zS_tun, ↓zS_tul, ↓zS_tud]
    exact hN _ _
  | false =>
    simp only [↓zHd0, zHp0, ↓zGd0, ↓zGd1, ↓zGd2, ↓zGd3, ↓zGd4, zGp0, startD, ↓List.map_cons, ↓List.map_nil, ↓List.length_cons, ↓List.length_nil, Nat.reduceAdd, Nat.reduceSub, Nat.sub_self, List.replicate, ↓List.cons_append, ↓List.nil_append, List.append_nil, ↓List.getElem?_cons_zero, ↓List.getElem?_cons_succ, ↓List.set_cons_zero, ↓List.set_cons_succ, wipeD, Bool.not_true, Bool.not_false, decide_true, decide_false, beq_self_eq_true, true_and, and_true, Nat.reduceLeDiff, toDs, toDk, toDs_sh, ↓zS_ownO, ↓zS_ii, ↓zS_bi, ↓zS_tt, ↓zS_ll, ↓zS_ss, ↓zS_isC, ↓zS_isCD, ↓zS_ms, ↓zS_c1, ↓zS_c2, ↓zS_iis, ↓zS_iii, ↓zS_ibi, ↓zS_iib, ↓zS_ibb, ↓zS_iin, ↓zS_iil, ↓zS_iit, ↓zS_iid, ↓zS_isI, ↓zS_isb, ↓zS_isn, ↓zS_isl, ↓zS_ist, ↓zS_isd, ↓zS_tus, ↓zS_tui, ↓zS_tub, ↓zS_tun, ↓zS_tul, ↓zS_tud]
    refine alike_same (d := .lst [.bl false, .bl false, .bl true]) (by decide +kernel) (by decide +kernel) ?_
    simp only [↓zHd0, zHp0, ↓zGd0, ↓zGd1, ↓zGd2, ↓zGd3, ↓zGd4, zGp0, startD, ↓List.map_cons, ↓List.map_nil, ↓List.length_cons, ↓List.length_nil, Nat.reduceAdd, Nat.reduceSub, Nat.sub_self, List.replicate, ↓List.cons_append, ↓List.nil_append, List.append_nil, ↓List.getElem?_cons_zero, ↓List.getElem?_cons_succ, ↓List.set_cons_zero, ↓List.set_cons_succ, wipeD, Bool.not_true, Bool.not_false, decide_true, decide_false, beq_self_eq_true, true_and, and_true, Nat.reduceLeDiff, toDs, toDk, toDs_sh, ↓zS_ownO, ↓zS_ii, ↓zS_bi, ↓zS_tt, ↓zS_ll, ↓zS_ss, ↓zS_isC, ↓zS_isCD, ↓zS_ms, ↓zS_c1, ↓zS_c2, ↓zS_iis, ↓zS_iii, ↓zS_ibi, ↓zS_iib, ↓zS_ibb, ↓zS_iin, ↓zS_iil, ↓zS_iit, ↓zS_iid, ↓zS_isI, ↓zS_isb, ↓zS_isn, ↓zS_isl, ↓zS_ist, ↓zS_isd, ↓zS_tus, ↓zS_tui, ↓zS_tub, ↓zS_tun, ↓zS_tul, ↓zS_tud]
    exact hN _ _
theorem okC_rep {s : Str} (h : OkC s) (h2 : s.length ≤ 15) {k : Nat} (k0 : 0 < k) (hk : k ≤ 3) : OkC (repS s k) ∧ (repS s k).length = k * s.length := by
  have l : (repS s k).length = k * s.length := by
    rw [← len_toList, rep_tl, List.length_flatten, List.map_replicate, List.sum_replicate_nat, len_toList]
  have l0 := h.l0
  refine ⟨⟨by rw [l]; exact Nat.mul_pos k0 l0, ?_, fun c hc => ?_⟩, l⟩
  · rw [l]
    have : k * s.length ≤ 3 * 15 := Nat.mul_le_mul hk h2
    omega
  · rw [rep_tl] at hc
    obtain ⟨l, hl, hc⟩ := List.mem_flatten.mp hc
    rw [(List.mem_replicate.mp hl).2] at hc
    exact h.le c hc
theorem plain_two (hs : OkC s) (ht : OkC t) : DL.plain (.lst [.str s, .str t]) = true := by
  have o1 := sok_of hs (y := s) fun _ z => z
  have o2 := sok_of ht (y := t) fun _ z => z
  have fn : D.fine (.lst [.str s, .str t]) = true := by simp [D.fine, fineL, o1, o2]
  unfold DL.plain
  rw [fn]
  simp [D.dep, depL]
theorem wt_two (hs : OkC s) (ht : OkC t) : D.wt (.lst [.str s, .str t]) ≤ 16000000 := by
  have h1 := hs.l1
  have h2 := ht.l1
  simp [D.wt, wtL]
  omega
theorem right_1f {o6 o7 o8 o9 : Option SD} (hs : OkC s) (ht : OkC t) (hN : ∀ o3 o4 o5, W.nx (Sr s t o3 o4 o5 o6 o7 o8 o9)) : ∀ (k : Nat) (i : Int) (o3 o4 o5 : Option SD), forD (gN 3) b__law_right_1 W (ups i k) (Sr s t o3 o4 o5 o6 o7 o8 o9)
  | 0, _, _, _, _ => hN _ _ _
  | k + 1, i, _, _, _ => by
    have ih := right_1f hs ht hN k (i + 1)
    rw [ups_succ, forD_c]
    generalize forD (gN 3) b__law_right_1 W (ups (i + 1) k) = F at ih ⊢
    simp only [↓zHd0, zHp0, ↓zGd0, ↓zGd1, ↓zGd2, ↓zGd3, ↓zGd4, zGp0, startD, ↓List.map_cons, ↓List.map_nil, ↓List.length_cons, ↓List.length_nil, Nat.reduceAdd, Nat.reduceSub, Nat.sub_self, List.replicate, ↓List.cons_append, ↓List.nil_append, List.append_nil, ↓List.getElem?_cons_zero, ↓List.getElem?_cons_succ, ↓List.set_cons_zero, ↓List.set_cons_succ, wipeD, Bool.not_true, Bool.not_false, decide_true, decide_false, beq_self_eq_true, true_and, and_true, Nat.reduceLeDiff, toDs, toDk, toDs_sh, ↓zS_ownO, ↓zS_ii, ↓zS_bi, ↓zS_tt, ↓zS_ll, ↓zS_ss, ↓zS_isC, ↓zS_isCD, ↓zS_ms, ↓zS_c1, ↓zS_c2, ↓zS_iis, ↓zS_iii, ↓zS_ibi, ↓zS_iib, ↓zS_ibb, ↓zS_iin, ↓zS_iil, ↓zS_iit, ↓zS_iid, ↓zS_isI, ↓zS_isb, ↓zS_isn, ↓zS_isl, ↓zS_ist, ↓zS_isd, ↓zS_tus, ↓zS_tui, ↓zS_tub, ↓zS_tun, ↓zS_tul, ↓zS_tud]
    refine right_1 hs ht fun o4 o5 => ?_
    exact ih _ _ _
theorem right_2f {o3 o4 o5 o6 : Option SD} (hs : OkC s) (ht : OkC t) (hN : ∀ o7 o8 o9, W.nx (Sr s t o3 o4 o5 o6 o7 o8 o9)) : ∀ (xs : List (Str × Str)) (o7 o8 o9 : Option SD), (∀ x ∈ xs, OkC x.1 ∧ OkC x.2 ∧ s.length + x.1.length ≤ 60 ∧ t.length + x.2.length ≤ 60) → forD (gN 7) b__law_right_2 W (xs.map fun x => .lst [.str x.1, .str x.2]) (Sr s t o3 o4 o5 o6 o7 o8 o9)
  | [], _, _, _, _ => hN _ _ _
  | x :: xs, _, _, _, h => by
    obtain ⟨h1, h2, h3, h4⟩ := h x List.mem_cons_self
    have ih := fun o7 o8 o9 => right_2f hs ht hN xs o7 o8 o9 fun y hy => h y (List.mem_cons_of_mem _ hy)
    rw [List.map_cons, forD_c]
    generalize forD (gN 7) b__law_right_2 W (xs.map fun x => .lst [.str x.1, .str x.2]) = F at ih ⊢
    simp only [↓zHd0, zHp0, ↓zGd0, ↓zGd1, ↓zGd2, ↓zGd3, ↓zGd4, zGp0, startD, ↓List.map_cons, ↓List.map_nil, ↓List.length_cons, ↓List.length_nil, Nat.reduceAdd, Nat.reduceSub, Nat.sub_self, List.replicate, ↓List.cons_append, ↓List.nil_append, List.append_nil, ↓List.getElem?_cons_zero, ↓List.getElem?_cons_succ, ↓List.set_cons_zero, ↓List.set_cons_succ, wipeD, Bool.not_true, Bool.not_false, decide_true, decide_false, beq_self_eq_true, true_and, and_true, Nat.reduceLeDiff, toDs, toDk, toDs_sh, ↓zS_ownO, ↓zS_ii, ↓zS_bi, ↓zS_tt, ↓zS_ll, ↓zS_ss, ↓zS_isC, ↓zS_isCD, ↓zS_ms, ↓zS_c1, ↓zS_c2, ↓zS_iis, ↓zS_iii, ↓zS_ibi, ↓zS_iib, ↓zS_ibb, ↓zS_iin, ↓zS_iil, ↓zS_iit, ↓zS_iid, ↓zS_isI, ↓zS_isb, ↓zS_isn, ↓zS_isl, ↓zS_ist, ↓zS_isd, ↓zS_tus, ↓zS_tui, ↓zS_tub, ↓zS_tun, ↓zS_tul, ↓zS_tud]
    refine right_2 hs ht h1 h2 h3 h4 fun o8 o9 => ?_
    exact ih _ _ _
abbrev rotS (s : Str) : Str := (⟨(cut s.cps.toList (some 1) none).toArray⟩ : Str) ++ ⟨(cut s.cps.toList none (some 1)).toArray⟩
theorem rot_tl {s : Str} (h : 0 < s.length) : (rotS s).cps.toList = s.cps.toList.drop 1 ++ s.cps.toList.take 1 := by
  have hl : 1 ≤ s.cps.toList.length := by rw [len_toList]; exact h
  show ((cut s.cps.toList (some 1) none).toArray ++ (cut s.cps.toList none (some 1)).toArray).toList = _
  rw [Array.toList_append]
  have e1 : cut s.cps.toList (some 1) none = s.cps.toList.drop 1 := by
    show cut s.cps.toList (some ((1 : Nat) : Int)) none = _
    unfold cut
    rw [HT.sIx_nat, Nat.min_eq_left hl]
    refine List.take_of_length_le ?_
    rw [List.length_drop]
    exact Nat.le_refl _
  have e2 : cut s.cps.toList none (some 1) = s.cps.toList.take 1 := by
    show cut s.cps.toList none (some ((1 : Nat) : Int)) = _
    unfold cut
    rw [HT.sIx_nat, Nat.min_eq_left hl]
    rfl
  rw [e1, e2]
theorem rot_len {s : Str} (h : 0 < s.length) : (rotS s).length = s.length := by
  have hl : 1 ≤ s.cps.toList.length := by rw [len_toList]; exact h
  rw [← len_toList, rot_tl h, List.length_append, List.length_drop, List.length_take, ← len_toList (x := s)]
  omega
theorem okC_cut {s y : Str} (h : OkC s) (hl : y.length = s.length) (hm : ∀ c ∈ y.cps.toList, c ∈ s.cps.toList) : OkC y := ⟨by rw [hl]; exact h.l0, by rw [hl]; exact h.l1, fun c hc => h.le c (hm c hc)⟩
theorem right_ok (hs : OkC s) (ht : OkC t) (l1 : s.length ≤ 5) (l2 : t.length ≤ 5) (hq : Q (.bl true)) : S__law_right [.bag, .lst [.str s, .str t]] Q := by
  refine ⟨rfl, ?_⟩
  show t__law_right _ [some (.sh .bag), some (.sh (.lst [.str s, .str t])), none, none, none, none, none, none, none, none]
  simp only [t__law_right, ↓zHd0, zHp0, ↓zGd0, ↓zGd1, ↓zGd2, ↓zGd3, ↓zGd4, zGp0, startD, ↓List.map_cons, ↓List.map_nil, ↓List.length_cons, ↓List.length_nil, Nat.reduceAdd, Nat.reduceSub, Nat.sub_self, List.replicate, ↓List.cons_append, ↓List.nil_append, List.append_nil, ↓List.getElem?_cons_zero, ↓List.getElem?_cons_succ, ↓List.set_cons_zero, ↓List.set_cons_succ, wipeD, Bool.not_true, Bool.not_false, decide_true, decide_false, beq_self_eq_true, true_and, and_true, Nat.reduceLeDiff, toDs, toDk, toDs_sh, ↓zS_ownO, ↓zS_ii, ↓zS_bi, ↓zS_tt, ↓zS_ll, ↓zS_ss, ↓zS_isC, ↓zS_isCD, ↓zS_ms, ↓zS_c1, ↓zS_c2, ↓zS_iis, ↓zS_iii, ↓zS_ibi, ↓zS_iib, ↓zS_ibb, ↓zS_iin, ↓zS_iil, ↓zS_iit, ↓zS_iid, ↓zS_isI, ↓zS_isb, ↓zS_isn, ↓zS_isl, ↓zS_ist, ↓zS_isd, ↓zS_tus, ↓zS_tui, ↓zS_tub, ↓zS_tun, ↓zS_tul, ↓zS_tud]
  refine colI_ok hs ht ?_
  try simp only [↓zHd0, zHp0, ↓zGd0, ↓zGd1, ↓zGd2, ↓zGd3, ↓zGd4, zGp0, startD, ↓List.map_cons, ↓List.map_nil, ↓List.length_cons, ↓List.length_nil, Nat.reduceAdd, Nat.reduceSub, Nat.sub_self, List.replicate, ↓List.cons_append, ↓List.nil_append, List.append_nil, ↓List.getElem?_cons_zero, ↓List.getElem?_cons_succ, ↓List.set_cons_zero, ↓List.set_cons_succ, wipeD, Bool.not_true, Bool.not_false, decide_true, decide_false, beq_self_eq_true, true_and, and_true, Nat.reduceLeDiff, toDs, toDk, toDs_sh, ↓zS_ownO, ↓zS_ii, ↓zS_bi, ↓zS_tt, ↓zS_ll, ↓zS_ss, ↓zS_isC, ↓zS_isCD, ↓zS_ms, ↓zS_c1, ↓zS_c2, ↓zS_iis, ↓zS_iii, ↓zS_ibi, ↓zS_iib, ↓zS_ibb, ↓zS_iin, ↓zS_iil, ↓zS_iit, ↓zS_iid, ↓zS_isI, ↓zS_isb, ↓zS_isn, ↓zS_isl, ↓zS_ist, ↓zS_isd, ↓zS_tus, ↓zS_tui, ↓zS_tub, ↓zS_tun, ↓zS_tul, ↓zS_tud]
  simp only [_law_right_at_2, ↓zHd0, zHp0, ↓zGd0, ↓zGd1, ↓zGd2, ↓zGd3, ↓zGd4, zGp0, startD, ↓List.map_cons, ↓List.map_nil, ↓List.length_cons, ↓List.length_nil, Nat.reduceAdd, Nat.reduceSub, Nat.sub_self, List.replicate, ↓List.cons_append, ↓List.nil_append, List.append_nil, ↓List.getElem?_cons_zero, ↓List.getElem?_cons_succ, ↓List.set_cons_zero, ↓List.set_cons_succ, wipeD, Bool.not_true, Bool.not_false, decide_true, decide_false, beq_self_eq_true, true_and, and_true, Nat.reduceLeDiff, toDs, toDk, toDs_sh, ↓zS_ownO, ↓zS_ii, ↓zS_bi, ↓zS_tt, ↓zS_ll, ↓zS_ss, ↓zS_isC, ↓zS_isCD, ↓zS_ms, ↓zS_c1, ↓zS_c2, ↓zS_iis, ↓zS_iii, ↓zS_ibi, ↓zS_iib, ↓zS_ibb, ↓zS_iin, ↓zS_iil, ↓zS_iit, ↓zS_iid, ↓zS_isI, ↓zS_isb, ↓zS_isn, ↓zS_isl, ↓zS_ist, ↓zS_isd, ↓zS_tus, ↓zS_tui, ↓zS_tub, ↓zS_tun, ↓zS_tul, ↓zS_tud]
  refine suns_ok ?_
  try simp only [↓zHd0, zHp0, ↓zGd0, ↓zGd1, ↓zGd2, ↓zGd3, ↓zGd4, zGp0, startD, ↓List.map_cons, ↓List.map_nil, ↓List.length_cons, ↓List.length_nil, Nat.reduceAdd, Nat.reduceSub, Nat.sub_self, List.replicate, ↓List.cons_append, ↓List.nil_append, List.append_nil, ↓List.getElem?_cons_zero, ↓List.getElem?_cons_succ, ↓List.set_cons_zero, ↓List.set_cons_succ, wipeD, Bool.not_true, Bool.not_false, decide_true, decide_false, beq_self_eq_true, true_and, and_true, Nat.reduceLeDiff, toDs, toDk, toDs_sh, ↓zS_ownO, ↓zS_ii, ↓zS_bi, ↓zS_tt, ↓zS_ll, ↓zS_ss, ↓zS_isC, ↓zS_isCD, ↓zS_ms, ↓zS_c1, ↓zS_c2, ↓zS_iis, ↓zS_iii, ↓zS_ibi, ↓zS_iib, ↓zS_ibb, ↓zS_iin, ↓zS_iil, ↓zS_iit, ↓zS_iid, ↓zS_isI, ↓zS_isb, ↓zS_isn, ↓zS_isl, ↓zS_ist, ↓zS_isd, ↓zS_tus, ↓zS_tui, ↓zS_tub, ↓zS_tun, ↓zS_tul, ↓zS_tud]
  refine moons_ok ?_
  try simp only [↓zHd0, zHp0, ↓zGd0, ↓zGd1, ↓zGd2, ↓zGd3, ↓zGd4, zGp0, startD, ↓List.map_cons, ↓List.map_nil, ↓List.length_cons, ↓List.length_nil, Nat.reduceAdd, Nat.reduceSub, Nat.sub_self, List.replicate, ↓List.cons_append, ↓List.nil_append, List.append_nil, ↓List.getElem?_cons_zero, ↓List.getElem?_cons_succ, ↓List.set_cons_zero, ↓List.set_cons_succ, wipeD, Bool.not_true, Bool.not_false, decide_true, decide_false, beq_self_eq_true, true_and, and_true, Nat.reduceLeDiff, toDs, toDk, toDs_sh, ↓zS_ownO, ↓zS_ii, ↓zS_bi, ↓zS_tt, ↓zS_ll, ↓zS_ss, ↓zS_isC, ↓zS_isCD, ↓zS_ms, ↓zS_c1, ↓zS_c2, ↓zS_iis, ↓zS_iii, ↓zS_ibi, ↓zS_iib, ↓zS_ibb, ↓zS_iin, ↓zS_iil, ↓zS_iit, ↓zS_iid, ↓zS_isI, ↓zS_isb, ↓zS_isn, ↓zS_isl, ↓zS_ist, ↓zS_isd, ↓zS_tus, ↓zS_tui, ↓zS_tub, ↓zS_tun, ↓zS_tul, ↓zS_tud]
  refine alike_same (plain_two hs ht) (wt_two hs ht) ?_
  simp only [_law_right_at_4, ↓zHd0, zHp0, ↓zGd0, ↓zGd1, ↓zGd2, ↓zGd3, ↓zGd4, zGp0, startD, ↓List.map_cons, ↓List.map_nil, ↓List.length_cons, ↓List.length_nil, Nat.reduceAdd, Nat.reduceSub, Nat.sub_self, List.replicate, ↓List.cons_append, ↓List.nil_append, List.append_nil, ↓List.getElem?_cons_zero, ↓List.getElem?_cons_succ, ↓List.set_cons_zero, ↓List.set_cons_succ, wipeD, Bool.not_true, Bool.not_false, decide_true, decide_false, beq_self_eq_true, true_and, and_true, Nat.reduceLeDiff, toDs, toDk, toDs_sh, ↓zS_ownO, ↓zS_ii, ↓zS_bi, ↓zS_tt, ↓zS_ll, ↓zS_ss, ↓zS_isC, ↓zS_isCD, ↓zS_ms, ↓zS_c1, ↓zS_c2, ↓zS_iis, ↓zS_iii, ↓zS_ibi, ↓zS_iib, ↓zS_ibb, ↓zS_iin, ↓zS_iil, ↓zS_iit, ↓zS_iid, ↓zS_isI, ↓zS_isb, ↓zS_isn, ↓zS_isl, ↓zS_ist, ↓zS_isd, ↓zS_tus, ↓zS_tui, ↓zS_tub, ↓zS_tun, ↓zS_tul, ↓zS_tud]
  refine ⟨⟨by decide, by decide⟩, ?_⟩
  refine right_1f hs ht (fun o3 o4 o5 => ?_) _ _ _ _ _
  simp only [_law_right_at_13, ↓zHd0, zHp0, ↓zGd0, ↓zGd1, ↓zGd2, ↓zGd3, ↓zGd4, zGp0, startD, ↓List.map_cons, ↓List.map_nil, ↓List.length_cons, ↓List.length_nil, Nat.reduceAdd, Nat.reduceSub, Nat.sub_self, List.replicate, ↓List.cons_append, ↓List.nil_append, List.append_nil, ↓List.getElem?_cons_zero, ↓List.getElem?_cons_succ, ↓List.set_cons_zero, ↓List.set_cons_succ, wipeD, Bool.not_true, Bool.not_false, decide_true, decide_false, beq_self_eq_true, true_and, and_true, Nat.reduceLeDiff, toDs, toDk, toDs_sh, ↓zS_ownO, ↓zS_ii, ↓zS_bi, ↓zS_tt, ↓zS_ll, ↓zS_ss, ↓zS_isC, ↓zS_isCD, ↓zS_ms, ↓zS_c1, ↓zS_c2, ↓zS_iis, ↓zS_iii, ↓zS_ibi, ↓zS_iib, ↓zS_ibb, ↓zS_iin, ↓zS_iil, ↓zS_iit, ↓zS_iid, ↓zS_isI, ↓zS_isb, ↓zS_isn, ↓zS_isl, ↓zS_ist, ↓zS_isd, ↓zS_tus, ↓zS_tui, ↓zS_tub, ↓zS_tun, ↓zS_tul, ↓zS_tud]
  have s0 := hs.l0
  have rl := rot_len s0
  obtain ⟨r2, r2l⟩ := okC_rep hs (by omega) (k := 2) (by omega) (by omega)
  obtain ⟨r3, r3l⟩ := okC_rep ht (by omega) (k := 3) (by omega) (by omega)
  have rr : OkC (rotS s) := okC_cut hs rl fun c hc => by
    rw [rot_tl s0] at hc
    exact (List.mem_append.mp hc).elim List.mem_of_mem_drop List.mem_of_mem_take
  have rls : (⟨(cut s.cps.toList (some 1) none).toArray⟩ : Str).length + (⟨(cut s.cps.toList none (some 1)).toArray⟩ : Str).length ≤ sizeLine := by
    rw [← strLen_append]
    show (rotS s).length ≤ _
    rw [rl]
    exact sz_w (by omega)
  refine ⟨⟨by decide, by decide, by omega⟩, ⟨by decide, by decide, by omega⟩, sz_w (by omega), sz_w (by omega), rls, ?_⟩
  simp only [_law_right_at_14, ↓zHd0, zHp0, ↓zGd0, ↓zGd1, ↓zGd2, ↓zGd3, ↓zGd4, zGp0, startD, ↓List.map_cons, ↓List.map_nil, ↓List.length_cons, ↓List.length_nil, Nat.reduceAdd, Nat.reduceSub, Nat.sub_self, List.replicate, ↓List.cons_append, ↓List.nil_append, List.append_nil, ↓List.getElem?_cons_zero, ↓List.getElem?_cons_succ, ↓List.set_cons_zero, ↓List.set_cons_succ, wipeD, Bool.not_true, Bool.not_false, decide_true, decide_false, beq_self_eq_true, true_and, and_true, Nat.reduceLeDiff, toDs, toDk, toDs_sh, ↓zS_ownO, ↓zS_ii, ↓zS_bi, ↓zS_tt, ↓zS_ll, ↓zS_ss, ↓zS_isC, ↓zS_isCD, ↓zS_ms, ↓zS_c1, ↓zS_c2, ↓zS_iis, ↓zS_iii, ↓zS_ibi, ↓zS_iib, ↓zS_ibb, ↓zS_iin, ↓zS_iil, ↓zS_iit, ↓zS_iid, ↓zS_isI, ↓zS_isb, ↓zS_isn, ↓zS_isl, ↓zS_ist, ↓zS_isd, ↓zS_tus, ↓zS_tui, ↓zS_tub, ↓zS_tun, ↓zS_tul, ↓zS_tud]
  refine mycols_ok (zs := [1, 2, 3]) (by decide) (by decide) fun a b ha hb la lb => ⟨by rw [sizeLine_eq]; decide, ?_⟩
  have l3 : ∀ k ∈ [1, 2, 3], k ≤ 3 := by decide
  have la := l3 _ la
  have lb := l3 _ lb
  have t0 := ht.l0
  refine right_2f hs ht (fun o7 o8 o9 => ?_) [(repS s 2, t), (s, repS t 3), (rotS s, t), (t, s), (a, b)] _ _ _ (fun x hx => ?_)
  · simp only [_law_right_at_19, ↓zHd0, zHp0, ↓zGd0, ↓zGd1, ↓zGd2, ↓zGd3, ↓zGd4, zGp0, startD, ↓List.map_cons, ↓List.map_nil, ↓List.length_cons, ↓List.length_nil, Nat.reduceAdd, Nat.reduceSub, Nat.sub_self, List.replicate, ↓List.cons_append, ↓List.nil_append, List.append_nil, ↓List.getElem?_cons_zero, ↓List.getElem?_cons_succ, ↓List.set_cons_zero, ↓List.set_cons_succ, wipeD, Bool.not_true, Bool.not_false, decide_true, decide_false, beq_self_eq_true, true_and, and_true, Nat.reduceLeDiff, toDs, toDk, toDs_sh, ↓zS_ownO, ↓zS_ii, ↓zS_bi, ↓zS_tt, ↓zS_ll, ↓zS_ss, ↓zS_isC, ↓zS_isCD, ↓zS_ms, ↓zS_c1, ↓zS_c2, ↓zS_iis, ↓zS_iii, ↓zS_ibi, ↓zS_iib, ↓zS_ibb, ↓zS_iin, ↓zS_iil, ↓zS_iit, ↓zS_iid, ↓zS_isI, ↓zS_isb, ↓zS_isn, ↓zS_isl, ↓zS_ist, ↓zS_isd, ↓zS_tus, ↓zS_tui, ↓zS_tub, ↓zS_tun, ↓zS_tul, ↓zS_tud]
    refine ⟨rfl, ceq_non (fun c fs z => by cases z) rfl ?_⟩
    simp only [↓zHd0, zHp0, ↓zGd0, ↓zGd1, ↓zGd2, ↓zGd3, ↓zGd4, zGp0, startD, ↓List.map_cons, ↓List.map_nil, ↓List.length_cons, ↓List.length_nil, Nat.reduceAdd, Nat.reduceSub, Nat.sub_self, List.replicate, ↓List.cons_append, ↓List.nil_append, List.append_nil, ↓List.getElem?_cons_zero, ↓List.getElem?_cons_succ, ↓List.set_cons_zero, ↓List.set_cons_succ, wipeD, Bool.not_true, Bool.not_false, decide_true, decide_false, beq_self_eq_true, true_and, and_true, Nat.reduceLeDiff, toDs, toDk, toDs_sh, ↓zS_ownO, ↓zS_ii, ↓zS_bi, ↓zS_tt, ↓zS_ll, ↓zS_ss, ↓zS_isC, ↓zS_isCD, ↓zS_ms, ↓zS_c1, ↓zS_c2, ↓zS_iis, ↓zS_iii, ↓zS_ibi, ↓zS_iib, ↓zS_ibb, ↓zS_iin, ↓zS_iil, ↓zS_iit, ↓zS_iid, ↓zS_isI, ↓zS_isb, ↓zS_isn, ↓zS_isl, ↓zS_ist, ↓zS_isd, ↓zS_tus, ↓zS_tui, ↓zS_tub, ↓zS_tun, ↓zS_tul, ↓zS_tud]
    refine ⟨rfl, ceq_non (fun c fs z => by cases z) rfl ?_⟩
    simp only [↓zHd0, zHp0, ↓zGd0, ↓zGd1, ↓zGd2, ↓zGd3, ↓zGd4, zGp0, startD, ↓List.map_cons, ↓List.map_nil, ↓List.length_cons, ↓List.length_nil, Nat.reduceAdd, Nat.reduceSub, Nat.sub_self, List.replicate, ↓List.cons_append, ↓List.nil_append, List.append_nil, ↓List.getElem?_cons_zero, ↓List.getElem?_cons_succ, ↓List.set_cons_zero, ↓List.set_cons_succ, wipeD, Bool.not_true, Bool.not_false, decide_true, decide_false, beq_self_eq_true, true_and, and_true, Nat.reduceLeDiff, toDs, toDk, toDs_sh, ↓zS_ownO, ↓zS_ii, ↓zS_bi, ↓zS_tt, ↓zS_ll, ↓zS_ss, ↓zS_isC, ↓zS_isCD, ↓zS_ms, ↓zS_c1, ↓zS_c2, ↓zS_iis, ↓zS_iii, ↓zS_ibi, ↓zS_iib, ↓zS_ibb, ↓zS_iin, ↓zS_iil, ↓zS_iit, ↓zS_iid, ↓zS_isI, ↓zS_isb, ↓zS_isn, ↓zS_isl, ↓zS_ist, ↓zS_isd, ↓zS_tus, ↓zS_tui, ↓zS_tub, ↓zS_tun, ↓zS_tul, ↓zS_tud]
    refine ⟨rfl, ceq_non (fun c fs z => by cases z) rfl ?_⟩
    simp only [↓zHd0, zHp0, ↓zGd0, ↓zGd1, ↓zGd2, ↓zGd3, ↓zGd4, zGp0, startD, ↓List.map_cons, ↓List.map_nil, ↓List.length_cons, ↓List.length_nil, Nat.reduceAdd, Nat.reduceSub, Nat.sub_self, List.replicate, ↓List.cons_append, ↓List.nil_append, List.append_nil, ↓List.getElem?_cons_zero, ↓List.getElem?_cons_succ, ↓List.set_cons_zero, ↓List.set_cons_succ, wipeD, Bool.not_true, Bool.not_false, decide_true, decide_false, beq_self_eq_true, true_and, and_true, Nat.reduceLeDiff, toDs, toDk, toDs_sh, ↓zS_ownO, ↓zS_ii, ↓zS_bi, ↓zS_tt, ↓zS_ll, ↓zS_ss, ↓zS_isC, ↓zS_isCD, ↓zS_ms, ↓zS_c1, ↓zS_c2, ↓zS_iis, ↓zS_iii, ↓zS_ibi, ↓zS_iib, ↓zS_ibb, ↓zS_iin, ↓zS_iil, ↓zS_iit, ↓zS_iid, ↓zS_isI, ↓zS_isb, ↓zS_isn, ↓zS_isl, ↓zS_ist, ↓zS_isd, ↓zS_tus, ↓zS_tui, ↓zS_tub, ↓zS_tun, ↓zS_tul, ↓zS_tud]
    exact hq
  · simp only [List.mem_cons, List.not_mem_nil, or_false] at hx
    rcases hx with rfl | rfl | rfl | rfl | rfl
    · exact ⟨r2, ht, by show s.length + (repS s 2).length ≤ 60; omega, by show t.length + t.length ≤ 60; omega⟩
    · exact ⟨hs, r3, by show s.length + s.length ≤ 60; omega, by show t.length + (repS t 3).length ≤ 60; omega⟩
    · exact ⟨rr, ht, by show s.length + (rotS s).length ≤ 60; omega, by show t.length + t.length ≤ 60; omega⟩
    · exact ⟨ht, hs, by show s.length + t.length ≤ 60; omega, by show t.length + s.length ≤ 60; omega⟩
    · exact ⟨ha, hb, by show s.length + a.length ≤ 60; omega, by show t.length + b.length ≤ 60; omega⟩
def wrL (s : Str) : List D := [.str (Str.ofString ""), .non, .str (Str.ofString "A"), .str (Str.ofString "a1"), .str (Str.ofString "a b"), .lst [.str (Str.ofString "a")], .tup [.str (Str.ofString "a")], .int 5, .bl true, .dic [], .str (Str.ofString "ab-"), .str (Str.ofString "a{"), .str (Str.ofString "`a"), .str (Str.ofString "a\n"), .str (Str.ofString "a "), .str s]
theorem wrL_ok (hs : OkC s) (l1 : s.length ≤ 5) : ∀ d ∈ wrL s, okX d = true := by
  have h0 : okX (.str s) = true := by
    have h1 := sok_of hs (y := s) fun _ z => z
    have sc := scal_str (x := s) (by omega) h1
    have f := sc.f
    have w := sc.w
    unfold okX
    simp [kindOk, f, sc.d0]
    omega
  rw [← List.all_eq_true]
  unfold wrL
  simp only [List.all_cons, List.all_nil]
  rw [h0]
  decide +kernel
theorem wright_ok (hs : OkC s) (l1 : s.length ≤ 5) (hq : Q (.bl true)) : S__law_wrong_right [.bag, .lst [.str s, .str t]] Q := by
  refine ⟨rfl, ?_⟩
  show t__law_wrong_right _ [some (.sh .bag), some (.sh (.lst [.str s, .str t])), none, none, none, none, none, none]
  simp only [t__law_wrong_right, ↓zHd0, zHp0, ↓zGd0, ↓zGd1, ↓zGd2, ↓zGd3, ↓zGd4, zGp0, startD, ↓List.map_cons, ↓List.map_nil, ↓List.length_cons, ↓List.length_nil, Nat.reduceAdd, Nat.reduceSub, Nat.sub_self, List.replicate, ↓List.cons_append, ↓List.nil_append, List.append_nil, ↓List.getElem?_cons_zero, ↓List.getElem?_cons_succ, ↓List.set_cons_zero, ↓List.set_cons_succ, wipeD, Bool.not_true, Bool.not_false, decide_true, decide_false, beq_self_eq_true, true_and, and_true, Nat.reduceLeDiff, toDs, toDk, toDs_sh, ↓zS_ownO, ↓zS_ii, ↓zS_bi, ↓zS_tt, ↓zS_ll, ↓zS_ss, ↓zS_isC, ↓zS_isCD, ↓zS_ms, ↓zS_c1, ↓zS_c2, ↓zS_iis, ↓zS_iii, ↓zS_ibi, ↓zS_iib, ↓zS_ibb, ↓zS_iin, ↓zS_iil, ↓zS_iit, ↓zS_iid, ↓zS_isI, ↓zS_isb, ↓zS_isn, ↓zS_isl, ↓zS_ist, ↓zS_isd, ↓zS_tus, ↓zS_tui, ↓zS_tub, ↓zS_tun, ↓zS_tul, ↓zS_tud]
  simp only [_law_wrong_right_at_2, ↓zHd0, zHp0, ↓zGd0, ↓zGd1, ↓zGd2, ↓zGd3, ↓zGd4, zGp0, startD, ↓List.map_cons, ↓List.map_nil, ↓List.length_cons, ↓List.length_nil, Nat.reduceAdd, Nat.reduceSub, Nat.sub_self, List.replicate, ↓List.cons_append, ↓List.nil_append, List.append_nil, ↓List.getElem?_cons_zero, ↓List.getElem?_cons_succ, ↓List.set_cons_zero, ↓List.set_cons_succ, wipeD, Bool.not_true, Bool.not_false, decide_true, decide_false, beq_self_eq_true, true_and, and_true, Nat.reduceLeDiff, toDs, toDk, toDs_sh, ↓zS_ownO, ↓zS_ii, ↓zS_bi, ↓zS_tt, ↓zS_ll, ↓zS_ss, ↓zS_isC, ↓zS_isCD, ↓zS_ms, ↓zS_c1, ↓zS_c2, ↓zS_iis, ↓zS_iii, ↓zS_ibi, ↓zS_iib, ↓zS_ibb, ↓zS_iin, ↓zS_iil, ↓zS_iit, ↓zS_iid, ↓zS_isI, ↓zS_isb, ↓zS_isn, ↓zS_isl, ↓zS_ist, ↓zS_isd, ↓zS_tus, ↓zS_tui, ↓zS_tub, ↓zS_tun, ↓zS_tul, ↓zS_tud]
  refine ⟨⟨by decide, by decide⟩, by rw [ups_len]; decide, ?_⟩
  refine lc_any (fun d => okX d = true) _ _ (fun d _ R hR => ?_) fun ys hl hy => ?_
  · simp only [↓zHd0, zHp0, ↓zGd0, ↓zGd1, ↓zGd2, ↓zGd3, ↓zGd4, zGp0, startD, ↓List.map_cons, ↓List.map_nil, ↓List.length_cons, ↓List.length_nil, Nat.reduceAdd, Nat.reduceSub, Nat.sub_self, List.replicate, ↓List.cons_append, ↓List.nil_append, List.append_nil, ↓List.getElem?_cons_zero, ↓List.getElem?_cons_succ, ↓List.set_cons_zero, ↓List.set_cons_succ, wipeD, Bool.not_true, Bool.not_false, decide_true, decide_false, beq_self_eq_true, true_and, and_true, Nat.reduceLeDiff, toDs, toDk, toDs_sh, ↓zS_ownO, ↓zS_ii, ↓zS_bi, ↓zS_tt, ↓zS_ll, ↓zS_ss, ↓zS_isC, ↓zS_isCD, ↓zS_ms, ↓zS_c1, ↓zS_c2, ↓zS_iis, ↓zS_iii, ↓zS_ibi, ↓zS_iib, ↓zS_ibb, ↓zS_iin, ↓zS_iil, ↓zS_iit, ↓zS_iid, ↓zS_isI, ↓zS_isb, ↓zS_isn, ↓zS_isl, ↓zS_ist, ↓zS_isd, ↓zS_tus, ↓zS_tui, ↓zS_tub, ↓zS_tun, ↓zS_tul, ↓zS_tud]
    exact ⟨⟨by show 0 < 16; decide, by show 16 ≤ 1000; decide⟩, fun d hd => hR d (wrL_ok hs l1 d hd)⟩
  rw [ups_len] at hl
  obtain ⟨a, b, rfl⟩ : ∃ a b, ys = [a, b] := by
    match ys, hl with
    | [a, b], _ => exact ⟨a, b, rfl⟩
  have oa := hy a (by simp)
  have ob := hy b (by simp)
  rw [List.nil_append]
  simp only [_law_wrong_right_at_3, ↓zHd0, zHp0, ↓zGd0, ↓zGd1, ↓zGd2, ↓zGd3, ↓zGd4, zGp0, startD, ↓List.map_cons, ↓List.map_nil, ↓List.length_cons, ↓List.length_nil, Nat.reduceAdd, Nat.reduceSub, Nat.sub_self, List.replicate, ↓List.cons_append, ↓List.nil_append, List.append_nil, ↓List.getElem?_cons_zero, ↓List.getElem?_cons_succ, ↓List.set_cons_zero, ↓List.set_cons_succ, wipeD, Bool.not_true, Bool.not_false, decide_true, decide_false, beq_self_eq_true, true_and, and_true, Nat.reduceLeDiff, toDs, toDk, toDs_sh, ↓zS_ownO, ↓zS_ii, ↓zS_bi, ↓zS_tt, ↓zS_ll, ↓zS_ss, ↓zS_isC, ↓zS_isCD, ↓zS_ms, ↓zS_c1, ↓zS_c2, ↓zS_iis, ↓zS_iii, ↓zS_ibi, ↓zS_iib, ↓zS_ibb, ↓zS_iin, ↓zS_iil, ↓zS_iit, ↓zS_iid, ↓zS_isI, ↓zS_isb, ↓zS_isn, ↓zS_isl, ↓zS_ist, ↓zS_isd, ↓zS_tus, ↓zS_tui, ↓zS_tub, ↓zS_tun, ↓zS_tul, ↓zS_tud]
  refine ⟨by show 2 ≤ sizeLine; decide, lc_map (fun d => .bl (colV d)) _ _ (fun d hd R hR => ?_) ?_⟩
  · simp only [↓zHd0, zHp0, ↓zGd0, ↓zGd1, ↓zGd2, ↓zGd3, ↓zGd4, zGp0, startD, ↓List.map_cons, ↓List.map_nil, ↓List.length_cons, ↓List.length_nil, Nat.reduceAdd, Nat.reduceSub, Nat.sub_self, List.replicate, ↓List.cons_append, ↓List.nil_append, List.append_nil, ↓List.getElem?_cons_zero, ↓List.getElem?_cons_succ, ↓List.set_cons_zero, ↓List.set_cons_succ, wipeD, Bool.not_true, Bool.not_false, decide_true, decide_false, beq_self_eq_true, true_and, and_true, Nat.reduceLeDiff, toDs, toDk, toDs_sh, ↓zS_ownO, ↓zS_ii, ↓zS_bi, ↓zS_tt, ↓zS_ll, ↓zS_ss, ↓zS_isC, ↓zS_isCD, ↓zS_ms, ↓zS_c1, ↓zS_c2, ↓zS_iis, ↓zS_iii, ↓zS_ibi, ↓zS_iib, ↓zS_ibb, ↓zS_iin, ↓zS_iil, ↓zS_iit, ↓zS_iid, ↓zS_isI, ↓zS_isb, ↓zS_isn, ↓zS_isl, ↓zS_ist, ↓zS_isd, ↓zS_tus, ↓zS_tui, ↓zS_tub, ↓zS_tun, ↓zS_tul, ↓zS_tud]
    exact lcols_any (hy d hd) hR
  rw [List.nil_append, List.map_cons, List.map_cons, List.map_nil]
  simp only [_law_wrong_right_at_4, ↓zHd0, zHp0, ↓zGd0, ↓zGd1, ↓zGd2, ↓zGd3, ↓zGd4, zGp0, startD, ↓List.map_cons, ↓List.map_nil, ↓List.length_cons, ↓List.length_nil, Nat.reduceAdd, Nat.reduceSub, Nat.sub_self, List.replicate, ↓List.cons_append, ↓List.nil_append, List.append_nil, ↓List.getElem?_cons_zero, ↓List.getElem?_cons_succ, ↓List.set_cons_zero, ↓List.set_cons_succ, wipeD, Bool.not_true, Bool.not_false, decide_true, decide_false, beq_self_eq_true, true_and, and_true, Nat.reduceLeDiff, toDs, toDk, toDs_sh, ↓zS_ownO, ↓zS_ii, ↓zS_bi, ↓zS_tt, ↓zS_ll, ↓zS_ss, ↓zS_isC, ↓zS_isCD, ↓zS_ms, ↓zS_c1, ↓zS_c2, ↓zS_iis, ↓zS_iii, ↓zS_ibi, ↓zS_iib, ↓zS_ibb, ↓zS_iin, ↓zS_iil, ↓zS_iit, ↓zS_iid, ↓zS_isI, ↓zS_isb, ↓zS_isn, ↓zS_isl, ↓zS_ist, ↓zS_isd, ↓zS_tus, ↓zS_tui, ↓zS_tub, ↓zS_tun, ↓zS_tul, ↓zS_tud]
  generalize hL : wrL s = L
  have hL' : [D.str (Str.ofString ""), .non, .str (Str.ofString "A"), .str (Str.ofString "a1"), .str (Str.ofString "a b"), .lst [.str (Str.ofString "a")], .tup [.str (Str.ofString "a")], .int 5, .bl true, .dic [], .str (Str.ofString "ab-"), .str (Str.ofString "a{"), .str (Str.ofString "`a"), .str (Str.ofString "a\n"), .str (Str.ofString "a "), .str s] = L := hL
  rw [hL']
  have fin : ∀ (d : D), DL.plain d = true → d.wt ≤ 16000000 → (∀ Q : D → Prop, Q d → Sx_Colours___init__ (fun c f y => okc__law_refused c = true ∧ ∃ o, hd__law_refused c f y = some o ∧ Q o) [a, b] fun _ => Q (.tup [.str (Str.ofString "told"), .non])) → _law_wrong_right_at_5 { nx := fun x => Q D.non, rt := Q } [some (.sh .bag), some (.sh (.lst [.str s, .str t])), some (.sh (.lst L)), some (.sh (.lst [a, b])), some (.sh (.lst [.bl (colV a), .bl (colV b)])), some (.sh d), none, none] := by
    intro d hp hw h
    simp only [_law_wrong_right_at_5, ↓zHd0, zHp0, ↓zGd0, ↓zGd1, ↓zGd2, ↓zGd3, ↓zGd4, zGp0, startD, ↓List.map_cons, ↓List.map_nil, ↓List.length_cons, ↓List.length_nil, Nat.reduceAdd, Nat.reduceSub, Nat.sub_self, List.replicate, ↓List.cons_append, ↓List.nil_append, List.append_nil, ↓List.getElem?_cons_zero, ↓List.getElem?_cons_succ, ↓List.set_cons_zero, ↓List.set_cons_succ, wipeD, Bool.not_true, Bool.not_false, decide_true, decide_false, beq_self_eq_true, true_and, and_true, Nat.reduceLeDiff, toDs, toDk, toDs_sh, ↓zS_ownO, ↓zS_ii, ↓zS_bi, ↓zS_tt, ↓zS_ll, ↓zS_ss, ↓zS_isC, ↓zS_isCD, ↓zS_ms, ↓zS_c1, ↓zS_c2, ↓zS_iis, ↓zS_iii, ↓zS_ibi, ↓zS_iib, ↓zS_ibb, ↓zS_iin, ↓zS_iil, ↓zS_iit, ↓zS_iid, ↓zS_isI, ↓zS_isb, ↓zS_isn, ↓zS_isl, ↓zS_ist, ↓zS_isd, ↓zS_tus, ↓zS_tui, ↓zS_tub, ↓zS_tun, ↓zS_tul, ↓zS_tud]
    refine h _ ?_
    exact alike_same hp hw hq
  have pt : DL.plain (.tup [.str (Str.ofString "told"), .non]) = true := by decide +kernel
  have wt : D.wt (.tup [.str (Str.ofString "told"), .non]) ≤ 16000000 := by decide +kernel
  have pw : ∀ k : Bool, DL.plain (.tup [.str (Str.ofString "wrong"), .int (if k then 1 else 0)]) = true := by decide +kernel
  have ww : ∀ k : Bool, D.wt (.tup [.str (Str.ofString "wrong"), .int (if k then 1 else 0)]) ≤ 16000000 := by decide +kernel
  have q1 : eqb (.bl true) (.bl false) = false := by decide +kernel
  have q2 : eqb (.bl false) (.bl false) = true := by decide +kernel
  cases ea : colV a with
  | false =>
    refine ⟨⟨by cases colV b <;> decide +kernel, by decide +kernel⟩, ?_⟩
    rw [show eqb (.lst [.bl false, .bl (colV b)]) (.lst [.bl true, .bl true]) = false by cases colV b <;> decide +kernel]
    simp only [↓zHd0, zHp0, ↓zGd0, ↓zGd1, ↓zGd2, ↓zGd3, ↓zGd4, zGp0, startD, ↓List.map_cons, ↓List.map_nil, ↓List.length_cons, ↓List.length_nil, Nat.reduceAdd, Nat.reduceSub, Nat.sub_self, List.replicate, ↓List.cons_append, ↓List.nil_append, List.append_nil, ↓List.getElem?_cons_zero, ↓List.getElem?_cons_succ, ↓List.set_cons_zero, ↓List.set_cons_succ, wipeD, Bool.not_true, Bool.not_false, decide_true, decide_false, beq_self_eq_true, true_and, and_true, Nat.reduceLeDiff, toDs, toDk, toDs_sh, ↓zS_ownO, ↓zS_ii, ↓zS_bi, ↓zS_tt, ↓zS_ll, ↓zS_ss, ↓zS_isC, ↓zS_isCD, ↓zS_ms, ↓zS_c1, ↓zS_c2, ↓zS_iis, ↓zS_iii, ↓zS_ibi, ↓zS_iib, ↓zS_ibb, ↓zS_iin, ↓zS_iil, ↓zS_iit, ↓zS_iid, ↓zS_isI, ↓zS_isb, ↓zS_isn, ↓zS_isl, ↓zS_ist, ↓zS_isd, ↓zS_tus, ↓zS_tui, ↓zS_tub, ↓zS_tun, ↓zS_tul, ↓zS_tud]
    rw [z_mIndexP]
    refine ⟨⟨by cases colV b <;> decide +kernel, by decide +kernel⟩, 0, .bl false, rfl, q2, fun m z' hm => absurd hm (Nat.not_lt_zero _), ?_⟩
    have fin' := fin (.tup [.str (Str.ofString "wrong"), .int 0]) (pw false) (ww false) fun Q hQ => colIx oa ob (fun _ => ⟨rfl, _, hd_wr, hQ⟩) (fun e => by rw [ea] at e; cases e) (fun e => by rw [ea] at e; cases e)
    rw [ea] at fin'
    exact fin'
  | true =>
    cases eb : colV b with
    | false =>
      refine ⟨⟨by decide +kernel, by decide +kernel⟩, ?_⟩
      rw [show eqb (.lst [.bl true, .bl false]) (.lst [.bl true, .bl true]) = false by decide +kernel]
      simp only [↓zHd0, zHp0, ↓zGd0, ↓zGd1, ↓zGd2, ↓zGd3, ↓zGd4, zGp0, startD, ↓List.map_cons, ↓List.map_nil, ↓List.length_cons, ↓List.length_nil, Nat.reduceAdd, Nat.reduceSub, Nat.sub_self, List.replicate, ↓List.cons_append, ↓List.nil_append, List.append_nil, ↓List.getElem?_cons_zero, ↓List.getElem?_cons_succ, ↓List.set_cons_zero, ↓List.set_cons_succ, wipeD, Bool.not_true, Bool.not_false, decide_true, decide_false, beq_self_eq_true, true_and, and_true, Nat.reduceLeDiff, toDs, toDk, toDs_sh, ↓zS_ownO, ↓zS_ii, ↓zS_bi, ↓zS_tt, ↓zS_ll, ↓zS_ss, ↓zS_isC, ↓zS_isCD, ↓zS_ms, ↓zS_c1, ↓zS_c2, ↓zS_iis, ↓zS_iii, ↓zS_ibi, ↓zS_iib, ↓zS_ibb, ↓zS_iin, ↓zS_iil, ↓zS_iit, ↓zS_iid, ↓zS_isI, ↓zS_isb, ↓zS_isn, ↓zS_isl, ↓zS_ist, ↓zS_isd, ↓zS_tus, ↓zS_tui, ↓zS_tub, ↓zS_tun, ↓zS_tul, ↓zS_tud]
      rw [z_mIndexP]
      refine ⟨⟨by decide +kernel, by decide +kernel⟩, 1, .bl false, rfl, q2, fun m z' hm e => ?_, ?_⟩
      · obtain rfl : m = 0 := by omega
        cases e
        exact q1
      have fin' := fin (.tup [.str (Str.ofString "wrong"), .int 1]) (pw true) (ww true) fun Q hQ => colIx oa ob (fun e => by rw [ea] at e; cases e) (fun _ _ => ⟨rfl, _, hd_wr, hQ⟩) (fun _ e => by rw [eb] at e; cases e)
      rw [ea, eb] at fin'
      exact fin'
    | true =>
      refine ⟨⟨by decide +kernel, by decide +kernel⟩, ?_⟩
      rw [show eqb (.lst [.bl true, .bl true]) (.lst [.bl true, .bl true]) = true by decide +kernel]
      simp only [↓zHd0, zHp0, ↓zGd0, ↓zGd1, ↓zGd2, ↓zGd3, ↓zGd4, zGp0, startD, ↓List.map_cons, ↓List.map_nil, ↓List.length_cons, ↓List.length_nil, Nat.reduceAdd, Nat.reduceSub, Nat.sub_self, List.replicate, ↓List.cons_append, ↓List.nil_append, List.append_nil, ↓List.getElem?_cons_zero, ↓List.getElem?_cons_succ, ↓List.set_cons_zero, ↓List.set_cons_succ, wipeD, Bool.not_true, Bool.not_false, decide_true, decide_false, beq_self_eq_true, true_and, and_true, Nat.reduceLeDiff, toDs, toDk, toDs_sh, ↓zS_ownO, ↓zS_ii, ↓zS_bi, ↓zS_tt, ↓zS_ll, ↓zS_ss, ↓zS_isC, ↓zS_isCD, ↓zS_ms, ↓zS_c1, ↓zS_c2, ↓zS_iis, ↓zS_iii, ↓zS_ibi, ↓zS_iib, ↓zS_ibb, ↓zS_iin, ↓zS_iil, ↓zS_iit, ↓zS_iid, ↓zS_isI, ↓zS_isb, ↓zS_isn, ↓zS_isl, ↓zS_ist, ↓zS_isd, ↓zS_tus, ↓zS_tui, ↓zS_tub, ↓zS_tun, ↓zS_tul, ↓zS_tud]
      have fin' := fin (.tup [.str (Str.ofString "told"), .non]) pt wt fun Q hQ => colIx oa ob (fun e => by rw [ea] at e; cases e) (fun _ e => by rw [eb] at e; cases e) (fun _ _ => hQ)
      rw [ea, eb] at fin'
      exact fin'
end
theorem law_f {W : DEnds} (hN : ∀ o2 o3, W.nx [none, some (.sh .bag), o2, o3]) : ∀ (k : Nat) (i : Int) (o2 o3 : Option SD), forD (gN 2) b_law_1 W (ups i k) [none, some (.sh .bag), o2, o3]
  | 0, _, _, _ => hN _ _
  | k + 1, i, _, _ => by
    have ih := law_f hN k (i + 1)
    rw [ups_succ, forD_c]
    generalize forD (gN 2) b_law_1 W (ups (i + 1) k) = F at ih ⊢
    simp only [↓zHd0, zHp0, ↓zGd0, ↓zGd1, ↓zGd2, ↓zGd3, ↓zGd4, zGp0, startD, ↓List.map_cons, ↓List.map_nil, ↓List.length_cons, ↓List.length_nil, Nat.reduceAdd, Nat.reduceSub, Nat.sub_self, List.replicate, ↓List.cons_append, ↓List.nil_append, List.append_nil, ↓List.getElem?_cons_zero, ↓List.getElem?_cons_succ, ↓List.set_cons_zero, ↓List.set_cons_succ, wipeD, Bool.not_true, Bool.not_false, decide_true, decide_false, beq_self_eq_true, true_and, and_true, Nat.reduceLeDiff, toDs, toDk, toDs_sh, ↓zS_ownO, ↓zS_ii, ↓zS_bi, ↓zS_tt, ↓zS_ll, ↓zS_ss, ↓zS_isC, ↓zS_isCD, ↓zS_ms, ↓zS_c1, ↓zS_c2, ↓zS_iis, ↓zS_iii, ↓zS_ibi, ↓zS_iib, ↓zS_ibb, ↓zS_iin, ↓zS_iil, ↓zS_iit, ↓zS_iid, ↓zS_isI, ↓zS_isb, ↓zS_isn, ↓zS_isl, ↓zS_ist, ↓zS_isd, ↓zS_tus, ↓zS_tui, ↓zS_tub, ↓zS_tun, ↓zS_tul, ↓zS_tud]
    simp only [b_law_1, ↓zHd0, zHp0, ↓zGd0, ↓zGd1, ↓zGd2, ↓zGd3, ↓zGd4, zGp0, startD, ↓List.map_cons, ↓List.map_nil, ↓List.length_cons, ↓List.length_nil, Nat.reduceAdd, Nat.reduceSub, Nat.sub_self, List.replicate, ↓List.cons_append, ↓List.nil_append, List.append_nil, ↓List.getElem?_cons_zero, ↓List.getElem?_cons_succ, ↓List.set_cons_zero, ↓List.set_cons_succ, wipeD, Bool.not_true, Bool.not_false, decide_true, decide_false, beq_self_eq_true, true_and, and_true, Nat.reduceLeDiff, toDs, toDk, toDs_sh, ↓zS_ownO, ↓zS_ii, ↓zS_bi, ↓zS_tt, ↓zS_ll, ↓zS_ss, ↓zS_isC, ↓zS_isCD, ↓zS_ms, ↓zS_c1, ↓zS_c2, ↓zS_iis, ↓zS_iii, ↓zS_ibi, ↓zS_iib, ↓zS_ibb, ↓zS_iin, ↓zS_iil, ↓zS_iit, ↓zS_iid, ↓zS_isI, ↓zS_isb, ↓zS_isn, ↓zS_isl, ↓zS_ist, ↓zS_isd, ↓zS_tus, ↓zS_tui, ↓zS_tub, ↓zS_tun, ↓zS_tul, ↓zS_tud]
    refine mycols_ok (zs := [1, 1, 2, 3, 4, 5]) (by decide) (by decide) fun s t hs ht ls lt => ?_
    have l5 : ∀ k ∈ [1, 1, 2, 3, 4, 5], k ≤ 5 := by decide
    have ls := l5 _ ls
    have lt := l5 _ lt
    simp only [law_at_4, ↓zHd0, zHp0, ↓zGd0, ↓zGd1, ↓zGd2, ↓zGd3, ↓zGd4, zGp0, startD, ↓List.map_cons, ↓List.map_nil, ↓List.length_cons, ↓List.length_nil, Nat.reduceAdd, Nat.reduceSub, Nat.sub_self, List.replicate, ↓List.cons_append, ↓List.nil_append, List.append_nil, ↓List.getElem?_cons_zero, ↓List.getElem?_cons_succ, ↓List.set_cons_zero, ↓List.set_cons_succ, wipeD, Bool.not_true, Bool.not_false, decide_true, decide_false, beq_self_eq_true, true_and, and_true, Nat.reduceLeDiff, toDs, toDk, toDs_sh, ↓zS_ownO, ↓zS_ii, ↓zS_bi, ↓zS_tt, ↓zS_ll, ↓zS_ss, ↓zS_isC, ↓zS_isCD, ↓zS_ms, ↓zS_c1, ↓zS_c2, ↓zS_iis, ↓zS_iii, ↓zS_ibi, ↓zS_iib, ↓zS_ibb, ↓zS_iin, ↓zS_iil, ↓zS_iit, ↓zS_iid, ↓zS_isI, ↓zS_isb, ↓zS_isn, ↓zS_isl, ↓zS_ist, ↓zS_isd, ↓zS_tus, ↓zS_tui, ↓zS_tub, ↓zS_tun, ↓zS_tul, ↓zS_tud]
    refine right_ok hs ht ls lt ?_
    simp only [↓zHd0, zHp0, ↓zGd0, ↓zGd1, ↓zGd2, ↓zGd3, ↓zGd4, zGp0, startD, ↓List.map_cons, ↓List.map_nil, ↓List.length_cons, ↓List.length_nil, Nat.reduceAdd, Nat.reduceSub, Nat.sub_self, List.replicate, ↓List.cons_append, ↓List.nil_append, List.append_nil, ↓List.getElem?_cons_zero, ↓List.getElem?_cons_succ, ↓List.set_cons_zero, ↓List.set_cons_succ, wipeD, Bool.not_true, Bool.not_false, decide_true, decide_false, beq_self_eq_true, true_and, and_true, Nat.reduceLeDiff, toDs, toDk, toDs_sh, ↓zS_ownO, ↓zS_ii, ↓zS_bi, ↓zS_tt, ↓zS_ll, ↓zS_ss, ↓zS_isC, ↓zS_isCD, ↓zS_ms, ↓zS_c1, ↓zS_c2, ↓zS_iis, ↓zS_iii, ↓zS_ibi, ↓zS_iib, ↓zS_ibb, ↓zS_iin, ↓zS_iil, ↓zS_iit, ↓zS_iid, ↓zS_isI, ↓zS_isb, ↓zS_isn, ↓zS_isl, ↓zS_ist, ↓zS_isd, ↓zS_tus, ↓zS_tui, ↓zS_tub, ↓zS_tun, ↓zS_tul, ↓zS_tud]
    refine wright_ok hs ls ?_
    simp only [↓zHd0, zHp0, ↓zGd0, ↓zGd1, ↓zGd2, ↓zGd3, ↓zGd4, zGp0, startD, ↓List.map_cons, ↓List.map_nil, ↓List.length_cons, ↓List.length_nil, Nat.reduceAdd, Nat.reduceSub, Nat.sub_self, List.replicate, ↓List.cons_append, ↓List.nil_append, List.append_nil, ↓List.getElem?_cons_zero, ↓List.getElem?_cons_succ, ↓List.set_cons_zero, ↓List.set_cons_succ, wipeD, Bool.not_true, Bool.not_false, decide_true, decide_false, beq_self_eq_true, true_and, and_true, Nat.reduceLeDiff, toDs, toDk, toDs_sh, ↓zS_ownO, ↓zS_ii, ↓zS_bi, ↓zS_tt, ↓zS_ll, ↓zS_ss, ↓zS_isC, ↓zS_isCD, ↓zS_ms, ↓zS_c1, ↓zS_c2, ↓zS_iis, ↓zS_iii, ↓zS_ibi, ↓zS_iib, ↓zS_ibb, ↓zS_iin, ↓zS_iil, ↓zS_iit, ↓zS_iid, ↓zS_isI, ↓zS_isb, ↓zS_isn, ↓zS_isl, ↓zS_ist, ↓zS_isd, ↓zS_tus, ↓zS_tui, ↓zS_tub, ↓zS_tun, ↓zS_tul, ↓zS_tud]
    exact ih _ _
theorem vc_law : t_law { nx := fun _ => False, rt := fun d => d = .bl true } [none, some (.sh .bag), none, none] := by
  simp only [t_law, ↓zHd0, zHp0, ↓zGd0, ↓zGd1, ↓zGd2, ↓zGd3, ↓zGd4, zGp0, startD, ↓List.map_cons, ↓List.map_nil, ↓List.length_cons, ↓List.length_nil, Nat.reduceAdd, Nat.reduceSub, Nat.sub_self, List.replicate, ↓List.cons_append, ↓List.nil_append, List.append_nil, ↓List.getElem?_cons_zero, ↓List.getElem?_cons_succ, ↓List.set_cons_zero, ↓List.set_cons_succ, wipeD, Bool.not_true, Bool.not_false, decide_true, decide_false, beq_self_eq_true, true_and, and_true, Nat.reduceLeDiff, toDs, toDk, toDs_sh, ↓zS_ownO, ↓zS_ii, ↓zS_bi, ↓zS_tt, ↓zS_ll, ↓zS_ss, ↓zS_isC, ↓zS_isCD, ↓zS_ms, ↓zS_c1, ↓zS_c2, ↓zS_iis, ↓zS_iii, ↓zS_ibi, ↓zS_iib, ↓zS_ibb, ↓zS_iin, ↓zS_iil, ↓zS_iit, ↓zS_iid, ↓zS_isI, ↓zS_isb, ↓zS_isn, ↓zS_isl, ↓zS_ist, ↓zS_isd, ↓zS_tus, ↓zS_tui, ↓zS_tub, ↓zS_tun, ↓zS_tul, ↓zS_tud]
  refine ⟨⟨by decide, by decide⟩, ?_⟩
  refine law_f (W := { nx := law_at_6 { nx := fun x => False, rt := fun d => d = D.bl true }, rt := fun d => d = D.bl true }) (fun _ _ => ?_) (Int.toNat 4) 0 _ _
  simp only [law_at_6, ↓zHd0, zHp0, ↓zGd0, ↓zGd1, ↓zGd2, ↓zGd3, ↓zGd4, zGp0, startD, ↓List.map_cons, ↓List.map_nil, ↓List.length_cons, ↓List.length_nil, Nat.reduceAdd, Nat.reduceSub, Nat.sub_self, List.replicate, ↓List.cons_append, ↓List.nil_append, List.append_nil, ↓List.getElem?_cons_zero, ↓List.getElem?_cons_succ, ↓List.set_cons_zero, ↓List.set_cons_succ, wipeD, Bool.not_true, Bool.not_false, decide_true, decide_false, beq_self_eq_true, true_and, and_true, Nat.reduceLeDiff, toDs, toDk, toDs_sh, ↓zS_ownO, ↓zS_ii, ↓zS_bi, ↓zS_tt, ↓zS_ll, ↓zS_ss, ↓zS_isC, ↓zS_isCD, ↓zS_ms, ↓zS_c1, ↓zS_c2, ↓zS_iis, ↓zS_iii, ↓zS_ibi, ↓zS_iib, ↓zS_ibb, ↓zS_iin, ↓zS_iil, ↓zS_iit, ↓zS_iid, ↓zS_isI, ↓zS_isb, ↓zS_isn, ↓zS_isl, ↓zS_ist, ↓zS_isd, ↓zS_tus, ↓zS_tui, ↓zS_tub, ↓zS_tun, ↓zS_tul, ↓zS_tud]
def spLaw (K : PySem.W.Frag) (tb : List Addr) : Sp := fun vs H P _ => ∃ (a : Addr) (ns : List Int), vs = [.ref a] ∧ SqL K H a (ns.map V.int) ∧ ns.length ≤ 63 ∧ (∀ t ∈ tb, H t = some (.tbl #[])) ∧ ∀ H', P (.bl true) H'
theorem pss_ex {α : Type} {X : Cx} {sts : List Stmt} {f : α → TS} (h : ∀ b, PSs X sts (f b)) : PSs X sts (fun D σ H => ∃ b, f b D σ H) := ⟨fun pins s σ H D I ⟨b, q⟩ => (h b).run pins s σ H D I q⟩
theorem d_law {P : Program} {w : World} {K : PySem.W.Frag} {mg : Str → Option Value} {base : Heap} {B : Bx} (T : Top K mg B.ct) (TX : TopX P w K mg base B.ct T) (hB : B.tb = tbs TX) {c : Addr} (hec : T.f_law.fd.code = .ref c) {A : Around} {outer : List Env} {s : Shared} {H : Hp} {E : XK} (hgd : A.guards = some []) (hr : Room 7 (A.deeper (envOfC "law" (defScope s_law) s.heap.objs.size T.f_law.f (.ref c)))) :
    PSsD (cxOf CX0 P w K mg base ["_law_script", "_law_bag_here", "_law_turn", "_law_told"] "law" (defScope s_law) T.f_law.f (.ref c) A outer s H E).nox B ((defBody s_law).drop 1) t_law := by
  have hgd : (cxOf CX0 P w K mg base ["_law_script", "_law_bag_here", "_law_turn", "_law_told"] "law" (defScope s_law) T.f_law.f (.ref c) A outer s H E).nox.A.guards = some [] := hgd

  refine psd_cons ?_ ?_
  · refine psd_for PassesOwn.never rfl (pid_r1 (by rfl) T.n_range (pad_cons pd_int pad_nil)) (pgd_name (i := 2) sc_law.nd rfl (by first | exact .inl rfl | exact .inr rfl)) ?_
    refine psd_cons ?_ ?_
    · refine (psd_set (i := 3) sc_law.nd rfl (by first | exact .inl rfl | exact .inr rfl) (pd_callD T.f__law_my_colours (ok__law_my_colours T) hr (by decide) (by rfl) (pad_cons (pd_var 1) (pad_cons (pd_f (pf_lst (pad_cons pd_int (pad_cons pd_int (pad_cons pd_int (pad_cons pd_int (pad_cons pd_int (pad_cons pd_int pad_nil)))))))) pad_nil))))
    refine psd_one ?_
    refine psd_if (pwd_or (ptd_not (ptd_val (pd_callDG T.f__law_right (ok__law_right T TX hB) hgd hr (by decide) (by rfl) (pad_cons (pd_var 1) (pad_cons (pd_var 3) pad_nil))))) (pwd_or1 (ptd_not (ptd_val (pd_callDG T.f__law_wrong_right (ok__law_wrong_right T TX hB) hgd hr (by decide) (by rfl) (pad_cons (pd_var 1) (pad_cons (pd_var 3) pad_nil))))))).pt ?_ ?_
    · refine psd_one ?_
      refine (psd_ret pd_bl)
    · exact psd_nil
  refine psd_one ?_
  refine (psd_ret pd_bl)
theorem ok_law {P : Program} {w : World} {K : PySem.W.Frag} {mg : Str → Option Value} {base : Heap} {ct : Nat → Addr} (T : Top K mg ct) (TX : TopX P w K mg base ct T) : FnG P w K mg base CX0 8 T.f_law.f T.f_law.fd ["_law_script"] (spLaw K ((tbs TX).map (·.1))) := by
  refine fng_ofC (k := 7) T.f_law.fn sc_law (fun vs H Q E h => ?_) (fun c A outer s H vs Q E hec hgd hr h => ?_)
  · obtain ⟨a, ns, rfl, _⟩ := h
    rfl
  obtain ⟨a, ns, rfl, hS, hl, hT, q⟩ := h
  have rest : ∀ b : Addr × Addr, PSsD (cxOf CX0 P w K mg base ["_law_script", "_law_bag_here", "_law_turn", "_law_told"] "law" (defScope s_law) T.f_law.f (.ref c) A outer s H E).nox ⟨b.1, b.2, ct, tbs TX, none⟩ ((defBody s_law).drop 1) t_law := fun b => d_law (B := ⟨b.1, b.2, ct, tbs TX, none⟩) T TX rfl hec hgd hr
  refine ⟨_, PSs.nox (pss_cons (ps_set (i := 1) sc_law.nd rfl (by first | exact .inl rfl | exact .inr rfl) (pe_call (ok__law_bag T) (hr.mono (by decide)) (by rfl) T.f__law_bag.at_ T.f__law_bag.fn.kp T.f__law_bag.bd .nil pass0 (pa_cons (pv 0) pa_nil))) (pss_ex rest)), ?_⟩
  refine ⟨.ref a, rfl, a, ns, rfl, hS, hl, fun b L H2 hb hL ne ex h1 h2 => ?_⟩
  let G : Hp := upd (fun _ => none) L (.lst ((ns.map absI).map V.int))
  have exG : Ex G H2 := fun x o hx => by
    by_cases e : x = L
    · subst e
      have hx : upd (fun _ => none) x (.lst ((ns.map absI).map V.int)) x = some o := hx
      rw [upd_same] at hx
      cases hx
      exact h2
    · have hx : upd (fun _ => none) L (.lst ((ns.map absI).map V.int)) x = some o := hx
      rw [upd_ne e] at hx
      cases hx
  have gb : G b = none := by
    show upd (fun _ => none) L _ b = none
    rw [upd_ne (Ne.symm ne)]
  have jn : Jn K ⟨b, L, ct, tbs TX, none⟩ G H2 := by
    refine ⟨exG, gb, ⟨0, 1234567891, 0, ns.map absI, h1, sq_of upd_same, by decide, by decide, by decide, by decide, fun n hn => ?_, by rw [List.length_map]; exact hl⟩, { tb := fun t z => ?_, ex := fun _ z => (nomatch z), keep := fun _ z => (nomatch z), old := fun _ z => (nomatch z) }⟩
    · obtain ⟨m, _, rfl⟩ := List.mem_map.mp hn
      unfold absI
      split <;> omega
    · have ht : H2 t.1 = some (.tbl #[]) := ex _ _ (hT t.1 (List.mem_map_of_mem z))
      refine ⟨⟨#[], ht, trivial, fun pos cv z => by cases z⟩, ?_⟩
      have nL : t.1 ≠ L := fun e => by
        rw [e, h2] at ht
        cases ht
      show upd (fun _ => none) L _ t.1 = none
      rw [upd_ne nL]
  refine ⟨(b, L), G, H2, G, [none, some (.sh .bag), none, none], { nx := fun _ => False, rt := fun d => d = .bl true }, Gr.refl jn, ?_, vc_law, ⟨fun _ _ _ _ z => z.elim, fun _ _ _ _ z => z.elim, fun _ _ _ _ z => z.elim, fun d v G3 H3 z _ _ hd => ?_, fun _ _ _ _ _ z => z.elim⟩⟩
  · have s0 := start_ok (K := K) (B := ⟨b, L, ct, tbs TX, none⟩) (H0 := H2) (G := G) (H := H2) (N := ["_law_script", "_law_bag_here", "_law_turn", "_law_told"]) (vs := []) (ds := []) .nil
    exact (s0.forget (i := 0) (o := some (.ref a))).set (i := 1) (v := .ref b) (d := .bag) .bag
  · have z : d = .bl true := z
    subst z
    cases hd
    exact q _
theorem mkc_Colours {K : PySem.W.Frag} {C : Addr} (aC : PySem.W.nsIn K mainGlobals "Colours" = some (some (.ref C))) (c : SlX.SCls K C) (s_Colours_its_moons : SlotAt K C "its_moons" 0) (s_Colours_its_suns : SlotAt K C "its_suns" 1) (si : SlX.SIsi K C) (out : OutC K C) (nf : PySem.W.notFirst K C (.ref C) = true) (ne : PySem.W.findIn K (.ref C) "__ne__" = some (some (.builtin "object.__ne__"))) (mo : PySem.W.mroIn K C (.type "object") = some true) (i_Colours_moons : (∃ t : InAt K "moons" "Colours.moons" s_Colours_moons ["self"], PrpAt K C "moons" t.f)) (i_Colours_suns : (∃ t : InAt K "suns" "Colours.suns" s_Colours_suns ["self"], PrpAt K C "suns" t.f)) (i_Colours___eq__ : (∃ t : InAt K "__eq__" "Colours.__eq__" s_Colours___eq__ ["self", "other"], Meth K C "__eq__" t.f)) (i_Colours___init__ : (∃ t : InAt K "__init__" "Colours.__init__" s_Colours___init__ ["self", "suns", "moons"], Mk K C t.f)) (i_Colours_shown : (∃ t : InAt K "shown" "Colours.shown" s_Colours_shown ["self", "ribbon"], Meth K C "shown" t.f)) : ∃ C : Addr, PySem.W.nsIn K mainGlobals "Colours" = some (some (.ref C)) ∧ SlX.SCls K C ∧ SlotAt K C "its_moons" 0 ∧ SlotAt K C "its_suns" 1 ∧ SlX.SIsi K C ∧ OutC K C ∧ PySem.W.notFirst K C (.ref C) = true ∧ PySem.W.findIn K (.ref C) "__ne__" = some (some (.builtin "object.__ne__")) ∧ PySem.W.mroIn K C (.type "object") = some true ∧ (∃ t : InAt K "moons" "Colours.moons" s_Colours_moons ["self"], PrpAt K C "moons" t.f) ∧ (∃ t : InAt K "suns" "Colours.suns" s_Colours_suns ["self"], PrpAt K C "suns" t.f) ∧ (∃ t : InAt K "__eq__" "Colours.__eq__" s_Colours___eq__ ["self", "other"], Meth K C "__eq__" t.f) ∧ (∃ t : InAt K "__init__" "Colours.__init__" s_Colours___init__ ["self", "suns", "moons"], Mk K C t.f) ∧ (∃ t : InAt K "shown" "Colours.shown" s_Colours_shown ["self", "ribbon"], Meth K C "shown" t.f) := ⟨C, aC, c, s_Colours_its_moons, s_Colours_its_suns, si, out, nf, ne, mo, i_Colours_moons, i_Colours_suns, i_Colours___eq__, i_Colours___init__, i_Colours_shown⟩
theorem mku {K : PySem.W.Frag} {mg : Str → Option Value} {h : Heap} {up__law_right up__law_wrong_right : Addr} (u__law_right : TabIs K mg h "_law_right" up__law_right) (u__law_wrong_right : TabIs K mg h "_law_wrong_right" up__law_wrong_right) (w_tn__law_wrong_right__law_right : up__law_wrong_right ≠ up__law_right) : ∃ up__law_right up__law_wrong_right : Addr, TabIs K mg h "_law_right" up__law_right ∧ TabIs K mg h "_law_wrong_right" up__law_wrong_right ∧ up__law_wrong_right ≠ up__law_right := ⟨up__law_right, up__law_wrong_right, u__law_right, u__law_wrong_right, w_tn__law_wrong_right__law_right⟩
abbrev sx_Wrong : Stmt := inClass (topS 2) 0
abbrev sx_NoRibbon : Stmt := inClass (topS 3) 0
theorem mkx {P : Program} {w : World} {K : PySem.W.Frag} {mg : Str → Option Value} {C_RibbonError C_Wrong C_NoRibbon : Addr} (aRibbonError : mg "RibbonError" = some (.ref C_RibbonError)) (aWrong : mg "Wrong" = some (.ref C_Wrong)) (aNoRibbon : mg "NoRibbon" = some (.ref C_NoRibbon)) (xWrong : ExcAll P w K mg C_Wrong "Wrong" "place" "place") (mWrong : PySem.W.exmOne K (.ref C_Wrong) (.ref C_RibbonError) = some true) (nWrong_place : PySem.W.findIn K (.ref C_Wrong) "place" = some none) (nWrong_ribbon : PySem.W.findIn K (.ref C_Wrong) "ribbon" = some none) (kWrong_Wrong : PySem.W.kitOne K (.ref C_Wrong) (.ref C_Wrong) = some true) (kWrong_NoRibbon : PySem.W.kitOne K (.ref C_Wrong) (.ref C_NoRibbon) = some false) (xNoRibbon : ExcAll P w K mg C_NoRibbon "NoRibbon" "ribbon" "ribbon") (mNoRibbon : PySem.W.exmOne K (.ref C_NoRibbon) (.ref C_RibbonError) = some true) (nNoRibbon_place : PySem.W.findIn K (.ref C_NoRibbon) "place" = some none) (nNoRibbon_ribbon : PySem.W.findIn K (.ref C_NoRibbon) "ribbon" = some none) (kNoRibbon_Wrong : PySem.W.kitOne K (.ref C_NoRibbon) (.ref C_Wrong) = some false) (kNoRibbon_NoRibbon : PySem.W.kitOne K (.ref C_NoRibbon) (.ref C_NoRibbon) = some true) : ∃ C_RibbonError C_Wrong C_NoRibbon : Addr, mg "RibbonError" = some (.ref C_RibbonError) ∧ mg "Wrong" = some (.ref C_Wrong) ∧ mg "NoRibbon" = some (.ref C_NoRibbon) ∧ ExcAll P w K mg C_Wrong "Wrong" "place" "place" ∧ PySem.W.exmOne K (.ref C_Wrong) (.ref C_RibbonError) = some true ∧ PySem.W.findIn K (.ref C_Wrong) "place" = some none ∧ PySem.W.findIn K (.ref C_Wrong) "ribbon" = some none ∧ PySem.W.kitOne K (.ref C_Wrong) (.ref C_Wrong) = some true ∧ PySem.W.kitOne K (.ref C_Wrong) (.ref C_NoRibbon) = some false ∧ ExcAll P w K mg C_NoRibbon "NoRibbon" "ribbon" "ribbon" ∧ PySem.W.exmOne K (.ref C_NoRibbon) (.ref C_RibbonError) = some true ∧ PySem.W.findIn K (.ref C_NoRibbon) "place" = some none ∧ PySem.W.findIn K (.ref C_NoRibbon) "ribbon" = some none ∧ PySem.W.kitOne K (.ref C_NoRibbon) (.ref C_Wrong) = some false ∧ PySem.W.kitOne K (.ref C_NoRibbon) (.ref C_NoRibbon) = some true := ⟨C_RibbonError, C_Wrong, C_NoRibbon, aRibbonError, aWrong, aNoRibbon, xWrong, mWrong, nWrong_place, nWrong_ribbon, kWrong_Wrong, kWrong_NoRibbon, xNoRibbon, mNoRibbon, nNoRibbon_place, nNoRibbon_ribbon, kNoRibbon_Wrong, kNoRibbon_NoRibbon⟩
theorem fin {l : PySem.W.OpenLaw} {w : World} {K : PySem.W.Frag} {h : Heap} {mg : Str → Option Value} {fa : Addr} (X : K.In h) (G : h.Ns mainGlobals mg) (hfa : mg "law" = some (.ref fa))
    (d_shortest_round : Nonempty (DefAt K mg "shortest_round" s_shortest_round ["text"]))
    (d_are_colours : Nonempty (DefAt K mg "are_colours" s_are_colours ["thing"]))
    (d_is_integer : Nonempty (DefAt K mg "is_integer" s_is_integer ["thing"]))
    (d_is_count : Nonempty (DefAt K mg "is_count" s_is_count ["thing"]))
    (d_is_side : Nonempty (DefAt K mg "is_side" s_is_side ["thing"]))
    (d__law_bag : Nonempty (DefAt K mg "_law_bag" s__law_bag ["_law_script"]))
    (d__law_take : Nonempty (DefAt K mg "_law_take" s__law_take ["_law_bag_here", "_law_many"]))
    (d__law_pick : Nonempty (DefAt K mg "_law_pick" s__law_pick ["_law_bag_here", "_law_things"]))
    (d__law_my_colours : Nonempty (DefAt K mg "_law_my_colours" s__law_my_colours ["_law_bag_here", "_law_sizes"]))
    (d__law_alike : Nonempty (DefAt K mg "_law_alike" s__law_alike ["_law_found", "_law_due"]))
    (d__law_my_colour : Nonempty (DefAt K mg "_law_my_colour" s__law_my_colour ["_law_colours", "_law_side", "_law_k"]))
    (d__law_same : Nonempty (DefAt K mg "_law_same" s__law_same ["_law_one", "_law_other"]))
    (d__law_refused : Nonempty (DefAt K mg "_law_refused" s__law_refused ["_law_act"]))
    (d__law_right : Nonempty (DefAt K mg "_law_right" s__law_right ["_law_bag_here", "_law_told"]))
    (d__law_is_colours : Nonempty (DefAt K mg "_law_is_colours" s__law_is_colours ["_law_thing"]))
    (d__law_wrong_right : Nonempty (DefAt K mg "_law_wrong_right" s__law_wrong_right ["_law_bag_here", "_law_told"]))
    (d_law : ∃ t : DefAt K mg "law" s_law ["_law_script"], ∀ (s : Shared) (v : Value), BindsTo s t.fd ⟨[v], []⟩ [("_law_script", v)])
    (c_Colours : ∃ C : Addr, PySem.W.nsIn K mainGlobals "Colours" = some (some (.ref C)) ∧ SlX.SCls K C ∧ SlotAt K C "its_moons" 0 ∧ SlotAt K C "its_suns" 1 ∧ SlX.SIsi K C ∧ OutC K C ∧ PySem.W.notFirst K C (.ref C) = true ∧ PySem.W.findIn K (.ref C) "__ne__" = some (some (.builtin "object.__ne__")) ∧ PySem.W.mroIn K C (.type "object") = some true ∧ (∃ t : InAt K "moons" "Colours.moons" s_Colours_moons ["self"], PrpAt K C "moons" t.f) ∧ (∃ t : InAt K "suns" "Colours.suns" s_Colours_suns ["self"], PrpAt K C "suns" t.f) ∧ (∃ t : InAt K "__eq__" "Colours.__eq__" s_Colours___eq__ ["self", "other"], Meth K C "__eq__" t.f) ∧ (∃ t : InAt K "__init__" "Colours.__init__" s_Colours___init__ ["self", "suns", "moons"], Mk K C t.f) ∧ (∃ t : InAt K "shown" "Colours.shown" s_Colours_shown ["self", "ribbon"], Meth K C "shown" t.f))
    (n_abs : PySem.W.nsIn K mainGlobals "abs" = some none)
    (n_all : PySem.W.nsIn K mainGlobals "all" = some none)
    (n_bool : PySem.W.nsIn K mainGlobals "bool" = some none)
    (n_enumerate : PySem.W.nsIn K mainGlobals "enumerate" = some none)
    (n_int : PySem.W.nsIn K mainGlobals "int" = some none)
    (n_isinstance : PySem.W.nsIn K mainGlobals "isinstance" = some none)
    (n_len : PySem.W.nsIn K mainGlobals "len" = some none)
    (n_range : PySem.W.nsIn K mainGlobals "range" = some none)
    (n_repr : PySem.W.nsIn K mainGlobals "repr" = some none)
    (n_str : PySem.W.nsIn K mainGlobals "str" = some none)
    (n_tuple : PySem.W.nsIn K mainGlobals "tuple" = some none)
    (k_SIDES : ∃ p : Addr, mg "SIDES" = some (.ref p) ∧ ∀ B G, Dat K B G (.ref p) c_SIDES)
    (j_LETTERS : ∃ t, mg "LETTERS" = some (.str x_LETTERS t))
    (u_all : ∃ up__law_right up__law_wrong_right : Addr, TabIs K mg h "_law_right" up__law_right ∧ TabIs K mg h "_law_wrong_right" up__law_wrong_right ∧ up__law_wrong_right ≠ up__law_right)
    (x_all : ∃ C_RibbonError C_Wrong C_NoRibbon : Addr, mg "RibbonError" = some (.ref C_RibbonError) ∧ mg "Wrong" = some (.ref C_Wrong) ∧ mg "NoRibbon" = some (.ref C_NoRibbon) ∧ ExcAll l.prog w K mg C_Wrong "Wrong" "place" "place" ∧ PySem.W.exmOne K (.ref C_Wrong) (.ref C_RibbonError) = some true ∧ PySem.W.findIn K (.ref C_Wrong) "place" = some none ∧ PySem.W.findIn K (.ref C_Wrong) "ribbon" = some none ∧ PySem.W.kitOne K (.ref C_Wrong) (.ref C_Wrong) = some true ∧ PySem.W.kitOne K (.ref C_Wrong) (.ref C_NoRibbon) = some false ∧ ExcAll l.prog w K mg C_NoRibbon "NoRibbon" "ribbon" "ribbon" ∧ PySem.W.exmOne K (.ref C_NoRibbon) (.ref C_RibbonError) = some true ∧ PySem.W.findIn K (.ref C_NoRibbon) "place" = some none ∧ PySem.W.findIn K (.ref C_NoRibbon) "ribbon" = some none ∧ PySem.W.kitOne K (.ref C_NoRibbon) (.ref C_Wrong) = some false ∧ PySem.W.kitOne K (.ref C_NoRibbon) (.ref C_NoRibbon) = some true)
    : LawT l w K 8 63 "_law_script" mg fa h := by
  obtain ⟨t_shortest_round⟩ := d_shortest_round
  obtain ⟨t_are_colours⟩ := d_are_colours
  obtain ⟨t_is_integer⟩ := d_is_integer
  obtain ⟨t_is_count⟩ := d_is_count
  obtain ⟨t_is_side⟩ := d_is_side
  obtain ⟨t__law_bag⟩ := d__law_bag
  obtain ⟨t__law_take⟩ := d__law_take
  obtain ⟨t__law_pick⟩ := d__law_pick
  obtain ⟨t__law_my_colours⟩ := d__law_my_colours
  obtain ⟨t__law_alike⟩ := d__law_alike
  obtain ⟨t__law_my_colour⟩ := d__law_my_colour
  obtain ⟨t__law_same⟩ := d__law_same
  obtain ⟨t__law_refused⟩ := d__law_refused
  obtain ⟨t__law_right⟩ := d__law_right
  obtain ⟨t__law_is_colours⟩ := d__law_is_colours
  obtain ⟨t__law_wrong_right⟩ := d__law_wrong_right
  obtain ⟨t_law, hb⟩ := d_law
  obtain ⟨C_Colours, vg_Colours, vc_Colours, vs_Colours_its_moons, vs_Colours_its_suns, vsi_Colours, vout_Colours, vnf_Colours, vne_Colours, vmo_Colours, ⟨vi_Colours_moons, vp_Colours_moons⟩, ⟨vi_Colours_suns, vp_Colours_suns⟩, ⟨vi_Colours___eq__, vm_Colours___eq__⟩, ⟨vi_Colours___init__, vmk_Colours⟩, ⟨vi_Colours_shown, vm_Colours_shown⟩⟩ := c_Colours
  obtain ⟨va_SIDES, vg_SIDES, vd_SIDES⟩ := k_SIDES
  obtain ⟨up__law_right, up__law_wrong_right, u__law_right, u__law_wrong_right, w_tn__law_wrong_right__law_right⟩ := u_all
  obtain ⟨C_RibbonError, C_Wrong, C_NoRibbon, vaRibbonError, vaWrong, vaNoRibbon, vxWrong, vmWrong, vnWrong_place, vnWrong_ribbon, vkWrong_Wrong, vkWrong_NoRibbon, vxNoRibbon, vmNoRibbon, vnNoRibbon_place, vnNoRibbon_ribbon, vkNoRibbon_Wrong, vkNoRibbon_NoRibbon⟩ := x_all
  have e := hfa.symm.trans t_law.at_
  have e : fa = t_law.f := by injection e with e; injection e
  subst e
  obtain ⟨uf__law_right, uc__law_right, ua__law_right, ui__law_right, uh__law_right, un__law_right, ue__law_right⟩ := u__law_right
  have e : uf__law_right = t__law_right.f := by have e := ua__law_right.symm.trans t__law_right.at_; injection e with e; injection e
  subst e
  have uk__law_right := t__law_right.code ui__law_right
  obtain ⟨uf__law_wrong_right, uc__law_wrong_right, ua__law_wrong_right, ui__law_wrong_right, uh__law_wrong_right, un__law_wrong_right, ue__law_wrong_right⟩ := u__law_wrong_right
  have e : uf__law_wrong_right = t__law_wrong_right.f := by have e := ua__law_wrong_right.symm.trans t__law_wrong_right.at_; injection e with e; injection e
  subst e
  have uk__law_wrong_right := t__law_wrong_right.code ui__law_wrong_right
  let T : Top K mg (fun n => match n with | 4 => C_Colours | 20 => C_RibbonError | 21 => C_Wrong | 24 => C_NoRibbon | _ => 0) := { i_Colours_moons := vi_Colours_moons, i_Colours_suns := vi_Colours_suns, f_shortest_round := t_shortest_round, i_Colours___eq__ := vi_Colours___eq__, f_are_colours := t_are_colours, i_Colours___init__ := vi_Colours___init__, f_is_integer := t_is_integer, f_is_count := t_is_count, f_is_side := t_is_side, i_Colours_shown := vi_Colours_shown, f__law_bag := t__law_bag, f__law_take := t__law_take, f__law_pick := t__law_pick, f__law_my_colours := t__law_my_colours, f__law_alike := t__law_alike, f__law_my_colour := t__law_my_colour, f__law_same := t__law_same, f__law_refused := t__law_refused, f__law_right := t__law_right, f__law_is_colours := t__law_is_colours, f__law_wrong_right := t__law_wrong_right, f_law := t_law, c_Colours := vc_Colours, g_Colours := (PySem.W.mg_of X G vg_Colours), s_Colours_its_moons := vs_Colours_its_moons, s_Colours_its_suns := vs_Colours_its_suns, si_Colours := vsi_Colours, out_Colours := vout_Colours, oth_Colours := (fun _ h => nomatch h), mk_Colours := vmk_Colours, nf_Colours := vnf_Colours, ne_Colours := vne_Colours, mo_Colours := vmo_Colours, p_Colours_moons := vp_Colours_moons, p_Colours_suns := vp_Colours_suns, m_Colours___eq__ := vm_Colours___eq__, m_Colours_shown := vm_Colours_shown, n_abs := (PySem.W.mg_none_of X G n_abs), n_all := (PySem.W.mg_none_of X G n_all), n_bool := (PySem.W.mg_none_of X G n_bool), n_enumerate := (PySem.W.mg_none_of X G n_enumerate), n_int := (PySem.W.mg_none_of X G n_int), n_isinstance := (PySem.W.mg_none_of X G n_isinstance), n_len := (PySem.W.mg_none_of X G n_len), n_range := (PySem.W.mg_none_of X G n_range), n_repr := (PySem.W.mg_none_of X G n_repr), n_str := (PySem.W.mg_none_of X G n_str), n_tuple := (PySem.W.mg_none_of X G n_tuple), a_SIDES := va_SIDES, g_SIDES := vg_SIDES, d_SIDES := vd_SIDES, g_LETTERS := j_LETTERS }
  have hx : ∀ base : Heap, (∀ p ∈ ([(uc__law_right, up__law_right), (uc__law_wrong_right, up__law_wrong_right)] : List (Addr × Addr)), LamX.TabB base mg p.1 p.2) → ∃ TX : TopX l.prog w K mg base (fun n => match n with | 4 => C_Colours | 20 => C_RibbonError | 21 => C_Wrong | 24 => C_NoRibbon | _ => 0) T, (tbs TX).map (·.1) = [up__law_right, up__law_wrong_right] := fun base hb => by
    obtain ⟨e_Wrong⟩ := vxWrong.f base
    obtain ⟨e_NoRibbon⟩ := vxNoRibbon.f base
    exact ⟨{ g_RibbonError := vaRibbonError, e_Wrong := e_Wrong, ec_Wrong := vxWrong.ec, xf_Wrong := vxWrong.xf, exm_Wrong := vmWrong, nf_Wrong_place := vnWrong_place, nf_Wrong_ribbon := vnWrong_ribbon, ki_Wrong_Wrong := vkWrong_Wrong, ki_Wrong_NoRibbon := vkWrong_NoRibbon, e_NoRibbon := e_NoRibbon, ec_NoRibbon := vxNoRibbon.ec, xf_NoRibbon := vxNoRibbon.xf, exm_NoRibbon := vmNoRibbon, nf_NoRibbon_place := vnNoRibbon_place, nf_NoRibbon_ribbon := vnNoRibbon_ribbon, ki_NoRibbon_Wrong := vkNoRibbon_Wrong, ki_NoRibbon_NoRibbon := vkNoRibbon_NoRibbon, cd__law_right := uc__law_right, tp__law_right := up__law_right, cc__law_right := uk__law_right, tb__law_right := hb _ List.mem_cons_self, cd__law_wrong_right := uc__law_wrong_right, tp__law_wrong_right := up__law_wrong_right, cc__law_wrong_right := uk__law_wrong_right, tb__law_wrong_right := hb _ (List.mem_cons_of_mem _ List.mem_cons_self), tn__law_wrong_right__law_right := w_tn__law_wrong_right__law_right }, rfl⟩
  refine ⟨t_law.fd, [(uc__law_right, up__law_right), (uc__law_wrong_right, up__law_wrong_right)], spLaw K [up__law_right, up__law_wrong_right], List.forall_mem_cons.mpr ⟨ue__law_right, List.forall_mem_cons.mpr ⟨ue__law_wrong_right, fun _ h => nomatch h⟩⟩, List.forall_mem_cons.mpr ⟨un__law_right, List.forall_mem_cons.mpr ⟨un__law_wrong_right, fun _ h => nomatch h⟩⟩, List.forall_mem_cons.mpr ⟨uh__law_right, List.forall_mem_cons.mpr ⟨uh__law_wrong_right, fun _ h => nomatch h⟩⟩, hb, ?_, ?_⟩
  · intro H a ns hl _ hT hS
    exact ⟨a, ns, rfl, hS, hl, fun t ht => by
      simp only [List.mem_cons, List.not_mem_nil, or_false] at ht
      rcases ht with rfl | rfl
      · exact hT _ List.mem_cons_self
      · exact hT _ (List.mem_cons_of_mem _ List.mem_cons_self), fun _ => rfl⟩
  · intro base _ _ hb
    obtain ⟨TX, hTX⟩ := hx base hb
    have z := ok_law (P := l.prog) (w := w) (base := base) T TX
    rw [hTX] at z
    exact z
end My
open PySem PySem.W PyProof.Rows in
set_option maxRecDepth 100000 in
set_option maxHeartbeats 0 in
theorem PySem.Challenge.cw_poleribbons_k50_colours_told_holds : PySem.Challenge.rw_poleribbons_k50_colours_told.Holds := by
  w_on; o_law; k_head; (case hw => w_witness2)
  k_fill
  refine DL.walk_gT (l := PySem.Challenge.rw_poleribbons_k50_colours_told) (n := 63) (k := 8) (x := "_law_script") rfl (by decide) rfl ⟨rfl, by decide, by decide⟩ (fun w h Y => Y.1) ?F
  case F =>
    intro w mg fa h Y KX G hmg
    replace hmg : mg "law" = some (.ref fa) := hmg
    refine' My.fin KX G hmg ?d_shortest_round ?d_are_colours ?d_is_integer ?d_is_count ?d_is_side ?d__law_bag ?d__law_take ?d__law_pick ?d__law_my_colours ?d__law_alike ?d__law_my_colour ?d__law_same ?d__law_refused ?d__law_right ?d__law_is_colours ?d__law_wrong_right ?d_law ?c_Colours ?n_abs ?n_all ?n_bool ?n_enumerate ?n_int ?n_isinstance ?n_len ?n_range ?n_repr ?n_str ?n_tuple ?k_SIDES ?j_LETTERS ?u_all ?x_all
    case d_shortest_round =>
      refine' DL.ex_def KX G (fun _ _ _ _ _ _ us hl => match us, hl with | [_], _ => rfl) ?a ?l ?c ?k
      (case a => k_is); (case l => k_is); (case c => k_is); (case k => k_is)
    case d_are_colours =>
      refine' DL.ex_def KX G (fun _ _ _ _ _ _ us hl => match us, hl with | [_], _ => rfl) ?a ?l ?c ?k
      (case a => k_is); (case l => k_is); (case c => k_is); (case k => k_is)
    case d_is_integer =>
      refine' DL.ex_def KX G (fun _ _ _ _ _ _ us hl => match us, hl with | [_], _ => rfl) ?a ?l ?c ?k
      (case a => k_is); (case l => k_is); (case c => k_is); (case k => k_is)
    case d_is_count =>
      refine' DL.ex_def KX G (fun _ _ _ _ _ _ us hl => match us, hl with | [_], _ => rfl) ?a ?l ?c ?k
      (case a => k_is); (case l => k_is); (case c => k_is); (case k => k_is)
    case d_is_side =>
      refine' DL.ex_def KX G (fun _ _ _ _ _ _ us hl => match us, hl with | [_], _ => rfl) ?a ?l ?c ?k
      (case a => k_is); (case l => k_is); (case c => k_is); (case k => k_is)
    case d__law_bag =>
      refine' DL.ex_def KX G (fun _ _ _ _ _ _ us hl => match us, hl with | [_], _ => rfl) ?a ?l ?c ?k
      (case a => k_is); (case l => k_is); (case c => k_is); (case k => k_is)
    case d__law_take =>
      refine' DL.ex_def KX G (fun _ _ _ _ _ _ us hl => match us, hl with | [_, _], _ => rfl) ?a ?l ?c ?k
      (case a => k_is); (case l => k_is); (case c => k_is); (case k => k_is)
    case d__law_pick =>
      refine' DL.ex_def KX G (fun _ _ _ _ _ _ us hl => match us, hl with | [_, _], _ => rfl) ?a ?l ?c ?k
      (case a => k_is); (case l => k_is); (case c => k_is); (case k => k_is)
    case d__law_my_colours =>
      refine' DL.ex_def KX G (fun _ _ _ _ _ _ us hl => match us, hl with | [_, _], _ => rfl) ?a ?l ?c ?k
      (case a => k_is); (case l => k_is); (case c => k_is); (case k => k_is)
    case d__law_alike =>
      refine' DL.ex_def KX G (fun _ _ _ _ _ _ us hl => match us, hl with | [_, _], _ => rfl) ?a ?l ?c ?k
      (case a => k_is); (case l => k_is); (case c => k_is); (case k => k_is)
    case d__law_my_colour =>
      refine' DL.ex_def KX G (fun _ _ _ _ _ _ us hl => match us, hl with | [_, _, _], _ => rfl) ?a ?l ?c ?k
      (case a => k_is); (case l => k_is); (case c => k_is); (case k => k_is)
    case d__law_same =>
      refine' DL.ex_def KX G (fun _ _ _ _ _ _ us hl => match us, hl with | [_, _], _ => rfl) ?a ?l ?c ?k
      (case a => k_is); (case l => k_is); (case c => k_is); (case k => k_is)
    case d__law_refused =>
      refine' DL.ex_def KX G (fun _ _ _ _ _ _ us hl => match us, hl with | [_], _ => rfl) ?a ?l ?c ?k
      (case a => k_is); (case l => k_is); (case c => k_is); (case k => k_is)
    case d__law_right =>
      refine' DL.ex_def KX G (fun _ _ _ _ _ _ us hl => match us, hl with | [_, _], _ => rfl) ?a ?l ?c ?k
      (case a => k_is); (case l => k_is); (case c => k_is); (case k => k_is)
    case d__law_is_colours =>
      refine' DL.ex_def KX G (fun _ _ _ _ _ _ us hl => match us, hl with | [_], _ => rfl) ?a ?l ?c ?k
      (case a => k_is); (case l => k_is); (case c => k_is); (case k => k_is)
    case d__law_wrong_right =>
      refine' DL.ex_def KX G (fun _ _ _ _ _ _ us hl => match us, hl with | [_, _], _ => rfl) ?a ?l ?c ?k
      (case a => k_is); (case l => k_is); (case c => k_is); (case k => k_is)
    case d_law =>
      refine' DL.ex_law KX G (fun _ _ _ _ _ _ us hl => match us, hl with | [_], _ => rfl) ?a ?l ?c ?k
      (case a => k_is); (case l => k_is); (case c => k_is); (case k => k_is)
    case c_Colours =>
      refine' My.mkc_Colours ?aC ?c ?s_Colours_its_moons ?s_Colours_its_suns ?si ?out ?nf ?ne ?mo ?i_Colours_moons ?i_Colours_suns ?i_Colours___eq__ ?i_Colours___init__ ?i_Colours_shown
      case aC =>
        k_is
      case c =>
        exact ⟨by k_is, by k_is, by k_is, by k_is⟩
      case s_Colours_its_moons =>
        refine' DL.ex_slot ?a ?g ?tk ?ty ?ix ?lt
        (case a => k_is); (case g => k_is); (case tk => k_is); (case ty => k_is); (case ix => k_is); (case lt => decide)
      case s_Colours_its_suns =>
        refine' DL.ex_slot ?a ?g ?tk ?ty ?ix ?lt
        (case a => k_is); (case g => k_is); (case tk => k_is); (case ty => k_is); (case ix => k_is); (case lt => decide)
      case si =>
        exact ⟨by k_is, by k_is, by k_is, by k_is⟩
      case out =>
        exact DL.outB_ok (by kernel_rfl)
      case nf =>
        k_is
      case ne =>
        k_is
      case mo =>
        k_is
      case i_Colours_moons =>
        refine' DL.ex_prop (fun _ _ _ _ _ _ us hl => match us, hl with | [_], _ => rfl) ?a ?g ?tk ?r ?l ?c ?k
        (case a => k_is); (case g => k_is); (case tk => k_is); (case r => k_is); (case l => k_is); (case c => k_is); (case k => k_is)
      case i_Colours_suns =>
        refine' DL.ex_prop (fun _ _ _ _ _ _ us hl => match us, hl with | [_], _ => rfl) ?a ?g ?tk ?r ?l ?c ?k
        (case a => k_is); (case g => k_is); (case tk => k_is); (case r => k_is); (case l => k_is); (case c => k_is); (case k => k_is)
      case i_Colours___eq__ =>
        refine' DL.ex_meth (fun _ _ _ _ _ _ us hl => match us, hl with | [_, _], _ => rfl) ?a ?i ?l ?c ?k
        (case a => k_is); (case i => k_is); (case l => k_is); (case c => k_is); (case k => k_is)
      case i_Colours___init__ =>
        refine' DL.ex_init (fun _ _ _ _ _ _ us hl => match us, hl with | [_, _, _], _ => rfl) ?a ?i ?l ?c ?k ?mk ?kc
        (case a => k_is); (case i => k_is); (case l => k_is); (case c => k_is); (case k => k_is); (case mk => k_is); (case kc => k_is)
      case i_Colours_shown =>
        refine' DL.ex_meth (fun _ _ _ _ _ _ us hl => match us, hl with | [_, _], _ => rfl) ?a ?i ?l ?c ?k
        (case a => k_is); (case i => k_is); (case l => k_is); (case c => k_is); (case k => k_is)
    case n_abs =>
      k_is
    case n_all =>
      k_is
    case n_bool =>
      k_is
    case n_enumerate =>
      k_is
    case n_int =>
      k_is
    case n_isinstance =>
      k_is
    case n_len =>
      k_is
    case n_range =>
      k_is
    case n_repr =>
      k_is
    case n_str =>
      k_is
    case n_tuple =>
      k_is
    case k_SIDES =>
      refine' DL.ex_tupS KX G ?a ?l ?c ?d ?z ?v
      (case a => k_is); (case l => k_is); (case c => rfl); (case d => rfl); (case z => decide); (case v => rfl)
    case j_LETTERS =>
      refine' DL.ex_str KX G ?a
      (case a => k_is)
    case u_all =>
      refine' My.mku ?u__law_right ?u__law_wrong_right ?w_tn__law_wrong_right__law_right
      case u__law_right =>
        refine' DL.ex_tab KX G ?zqa ?zql ?zqc ?zqlc ?zqtvs ?zqh ?zqn ?zqe
        (case zqa => k_is); (case zql => k_is); (case zqc => rfl); (case zqlc => k_is); (case zqtvs => rfl); (case zqh => kernel_rfl); (case zqn => kernel_rfl); (case zqe => exact Y.2 _ (by decide))
      case u__law_wrong_right =>
        refine' DL.ex_tab KX G ?zqa ?zql ?zqc ?zqlc ?zqtvs ?zqh ?zqn ?zqe
        (case zqa => k_is); (case zql => k_is); (case zqc => rfl); (case zqlc => k_is); (case zqtvs => rfl); (case zqh => kernel_rfl); (case zqn => kernel_rfl); (case zqe => exact Y.2 _ (by decide))
      case w_tn__law_wrong_right__law_right => decide
    case x_all =>
      refine' My.mkx ?aRibbonError ?aWrong ?aNoRibbon ?xWrong ?mWrong ?nWrong_place ?nWrong_ribbon ?kWrong_Wrong ?kWrong_NoRibbon ?xNoRibbon ?mNoRibbon ?nNoRibbon_place ?nNoRibbon_ribbon ?kNoRibbon_Wrong ?kNoRibbon_NoRibbon
      (case aRibbonError => exact PySem.W.mg_of KX G (by k_is))
      (case aWrong => exact PySem.W.mg_of KX G (by k_is))
      (case aNoRibbon => exact PySem.W.mg_of KX G (by k_is))
      case xWrong =>
        refine' DL.ex_exc (st := My.sx_Wrong) KX G ?zqa ?zqi ?zqty ?zqlk ?zqhcd ?zqlC ?zqhr ?zqsa ?zqexC ?zqtyC ?zqkC ?zqlcc ?zqlcd ?zqhv ?zqhf ?zqhc ?zqmr ?zqsup ?zqini ?zqsubV ?zqany ?zqnofld ?zqtop ?zqhg ?zqhk ?zqhd ?zqha ?zqhn ?zqht ?zqhm ?zqhb ?zqS ?zqhp ?zqhar ?zqhks ?zqhpd ?zqhpc ?zqhps ?zqhe ?zqhs0 ?zqhs1 ?zqb
        (case zqa => k_is); (case zqi => k_is); (case zqty => k_is); (case zqlk => k_is); (case zqhcd => k_is); (case zqlC => k_is)
        (case zqhr => kernel_rfl); (case zqsa => k_is); (case zqexC => k_is); (case zqtyC => k_is); (case zqkC => k_is); (case zqlcc => k_is); (case zqlcd => k_is); (case zqhv => rfl); (case zqhf => kernel_rfl); (case zqhc => k_is); (case zqmr => k_is); (case zqsup => k_is); (case zqini => kernel_rfl); (case zqsubV => k_is); (case zqany => k_is); (case zqnofld => k_is); (case zqtop => kernel_rfl)
        (case zqhg => k_is); (case zqhk => k_is); (case zqhd => k_is); (case zqha => k_is); (case zqhn => k_is); (case zqht => k_is); (case zqhm => k_is)
        (case zqhb => rfl); (case zqS => exact NdefX.nscope_by (by decide +kernel)); (case zqhp => rfl); (case zqhar => rfl); (case zqhks => rfl); (case zqhpd => decide); (case zqhpc => decide); (case zqhps => decide); (case zqhe => exact fun _ _ _ _ => rfl); (case zqhs0 => exact fun _ _ _ _ => rfl); (case zqhs1 => exact fun _ _ _ _ => rfl)
        (case zqb => exact fun us hl => match us, hl with | [_, _], _ => rfl)
      (case mWrong => kernel_rfl)
      (case nWrong_place => k_is)
      (case nWrong_ribbon => k_is)
      (case kWrong_Wrong => kernel_rfl)
      (case kWrong_NoRibbon => kernel_rfl)
      case xNoRibbon =>
        refine' DL.ex_exc (st := My.sx_NoRibbon) KX G ?zqa ?zqi ?zqty ?zqlk ?zqhcd ?zqlC ?zqhr ?zqsa ?zqexC ?zqtyC ?zqkC ?zqlcc ?zqlcd ?zqhv ?zqhf ?zqhc ?zqmr ?zqsup ?zqini ?zqsubV ?zqany ?zqnofld ?zqtop ?zqhg ?zqhk ?zqhd ?zqha ?zqhn ?zqht ?zqhm ?zqhb ?zqS ?zqhp ?zqhar ?zqhks ?zqhpd ?zqhpc ?zqhps ?zqhe ?zqhs0 ?zqhs1 ?zqb
        (case zqa => k_is); (case zqi => k_is); (case zqty => k_is); (case zqlk => k_is); (case zqhcd => k_is); (case zqlC => k_is)
        (case zqhr => kernel_rfl); (case zqsa => k_is); (case zqexC => k_is); (case zqtyC => k_is); (case zqkC => k_is); (case zqlcc => k_is); (case zqlcd => k_is); (case zqhv => rfl); (case zqhf => kernel_rfl); (case zqhc => k_is); (case zqmr => k_is); (case zqsup => k_is); (case zqini => kernel_rfl); (case zqsubV => k_is); (case zqany => k_is); (case zqnofld => k_is); (case zqtop => kernel_rfl)
        (case zqhg => k_is); (case zqhk => k_is); (case zqhd => k_is); (case zqha => k_is); (case zqhn => k_is); (case zqht => k_is); (case zqhm => k_is)
        (case zqhb => rfl); (case zqS => exact NdefX.nscope_by (by decide +kernel)); (case zqhp => rfl); (case zqhar => rfl); (case zqhks => rfl); (case zqhpd => decide); (case zqhpc => decide); (case zqhps => decide); (case zqhe => exact fun _ _ _ _ => rfl); (case zqhs0 => exact fun _ _ _ _ => rfl); (case zqhs1 => exact fun _ _ _ _ => rfl)
        (case zqb => exact fun us hl => match us, hl with | [_, _], _ => rfl)
      (case mNoRibbon => kernel_rfl)
      (case nNoRibbon_place => k_is)
      (case nNoRibbon_ribbon => k_is)
      (case kNoRibbon_Wrong => kernel_rfl)
      (case kNoRibbon_NoRibbon => kernel_rfl)
