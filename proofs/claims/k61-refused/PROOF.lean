import PyProof.Rows.All
import Wide.All
import OpenK.AllK
import Wide.FinOn
import HandS.ForMost
import HandS.Exc
import HandS.Evl
import HandS.Slots
import HandS.Lambda
import HandS.EndBits
import PyProof.ReprRoads
import PyProof.StrLawsRepr
import HandS.Wide
import HandS.IsInst
import HandS.Style
import HandS.TupAny
import HandS.Star
import HandS.NoneIn
import HandS.SlotsOwn
import PyProof.InstNe
import HandS.Iter
import HandS.SetFor
import HandS.Strs
import HandS.Zip
import HandS.Conv
import KE.GoesMore
import HandS.Deep
import HandS.OwnEq
import HandS.DictComp
import PyProof.DictFindH
import HandS.DictEq
import HandS.DeepEq
import KE.SortData
import HandS.TupLen
import KE.KDictCopyH
import KE.KDictSum
import KE.KDictPairs
import HandS.SetBool
import HandS.TupSets
import HandS.SetKeys
import KE.KDictDisplayH
import KE.KEqDict
import KE.KRevSl
import HandS.Replace
import HandS.ReplaceLit
import HandS.ReplaceDef
import HandS.ReplaceList
import HandS.Text
import KE.KExcSuper
import KE.KSuper
import HandS.ExcInit
import HandS.Nested
import HandS.WordsExc
import KE.KExcIs
import HandS.ExcIs
import HandS.ExcField
import KE.KLam
import HandS.EndTab
import PyProof.IsInstance
import KE.KEqNest
import HandS.ListItems
import HandS.Defaults
import HandS.OwnIter
import HandS.IterNext
import PyProof.TupleOfGen
import KE.KOpsOwn
import KE.DataMinMax
import PyProof.Rows.RowBridgeK
import OpenK.KMeth
import PyProof.IsRules
import PyProof.EqAt
import PyProof.ReprReads
import PyProof.ReprNest
import PySem.Challenge.RW_poleribbons_k61_heaps_refused
import KE.OsRunLaw
set_option Elab.async false
set_option linter.all false
set_option maxRecDepth 100000
set_option maxHeartbeats 8000000
namespace My
open PySem PySem.W in
def Kt (K : Params → Frag) (ts : List Addr) : Params → Frag := fun P => K P ++ ts.map fun a => (a, tabObj #[])
def At (as ts : List Addr) : List Addr := as ++ ts
structure Wrap (X : Prop) : Prop where
  get : X
structure Early (A : Prop) : Type where
  X : Prop
  h : Wrap X → A
end My
open PySem PySem.W in
local macro_rules | `(tactic| o_head (kmHook $K $as $e $ts)) => `(tactic| o_headL (kHook (My.Kt $K $ts) (My.At $as $ts) (fun _ => by kernel_rfl)))
open PySem PySem.W in
local macro_rules | `(tactic| o_head (kHook $K $as $e)) => `(tactic| o_headL (kHook $K $as $e))
open Lean PySem PySem.W in
local macro_rules | `(tactic| refine $t:term) => do
  let r := t.raw
  unless r.isOfKind ``Lean.Parser.Term.app do Macro.throwUnsupported
  let as := r[1].getArgs
  let some l := as.back? | Macro.throwUnsupported
  unless l.isOfKind ``Lean.Parser.Term.syntheticHole && l[1].isIdent && l[1].getId.eraseMacroScopes == `hc do Macro.throwUnsupported
  let g ← `((My.Wrap.get (by assumption)))
  let n : TSyntax `term := ⟨r.setArg 1 (r[1].setArgs (as.pop.push g))⟩
  `(tactic| refine $n)
open PySem PySem.W PyProof.Rows in
set_option Elab.async false in
set_option maxRecDepth 100000 in
set_option maxHeartbeats 0 in
noncomputable def My.early : My.Early PySem.Challenge.rw_poleribbons_k61_heaps_refused.Holds := by
  refine' My.Early.mk _ fun h => ?Y
  case Y => w_on; o_law; k_head; (case hw => w_witness2)
namespace DL
open PySem PySem.Spec PyProof.Rows L2 Evl
/-- the bag's place, the classes' places -/
structure Bx where
  b : Addr
  L : Addr
  ct : Nat → Addr
  tb : List (Addr × Str) := []
  up : Option (Hp × Hp) := none
/-- nothing that moves stands there -/
def Bx.st (B : Bx) (p : Addr) : Prop := p ≠ B.b ∧ ∀ t ∈ B.tb, p ≠ t.1
/-- .. and it is younger than the anchor -/
def Bx.nb (B : Bx) (p : Addr) : Prop := B.st p ∧ ∀ u, B.up = some u → u.2 p = none
inductive D where
  | non | bl (b : Bool) | int (i : Int) | str (x : Str) | lst (xs : List D) | tup (xs : List D)
  | dic (ks : List (D × D)) | obj (c : Nat) (fs : List D) | bag | ktup (xs : List D)
def embK : Key → D
  | .inl i => .int i
  | .inr x => .str x
def embT (k : List Key) : D := .tup (k.map embK)
mutual
inductive Dat (K : PySem.W.Frag) (B : Bx) (G : Hp) : V → D → Prop
  | non : Dat K B G .non .non
  | bl (b : Bool) : Dat K B G (.bl b) (.bl b)
  | int (i : Int) : Dat K B G (.int i) (.int i)
  | str (x : Str) : Dat K B G (.str x) (.str x)
  | lst {a : Addr} {xs : List V} {ds : List D} : G a = some (.lst xs) → Dats K B G xs ds → Dat K B G (.ref a) (.lst ds)
  | tup {a : Addr} {xs : List V} {ds : List D} : G a = some (.tup xs) → Dats K B G xs ds → Dat K B G (.ref a) (.tup ds)
  | ktup {a : Addr} {xs : List V} {ds : List D} : SqT K G a xs → Dats K B G xs ds → Dat K B G (.ref a) (.ktup ds)
  | dK {a : Addr} {od : Obj} {kvs : List (Key × V)} {ds : List (D × D)} : G a = some (.frz od (.dK kvs)) → DatK K B G kvs ds → Dat K B G (.ref a) (.dic ds)
  | dT {a : Addr} {od : Obj} {kvs : List (List Key × V)} {ds : List (D × D)} : G a = some (.frz od (.dT kvs)) → DatT K B G kvs ds → Dat K B G (.ref a) (.dic ds)
  | bag : Dat K B G (.ref B.b) .bag
  | obj {a dx : Addr} {C : Nat} {vs : List V} {fs : List D} : G a = some (SlX.SlO a (B.ct C) dx (vs.map some)) → G dx = some (.xd []) → Dats K B G vs fs → Dat K B G (.ref a) (.obj C fs)
inductive Dats (K : PySem.W.Frag) (B : Bx) (G : Hp) : List V → List D → Prop
  | nil : Dats K B G [] []
  | cons {v : V} {vs : List V} {d : D} {ds : List D} : Dat K B G v d → Dats K B G vs ds → Dats K B G (v :: vs) (d :: ds)
inductive DatK (K : PySem.W.Frag) (B : Bx) (G : Hp) : List (Key × V) → List (D × D) → Prop
  | nil : DatK K B G [] []
  | consI {i : Int} {v : V} {d : D} {vs : List (Key × V)} {ds : List (D × D)} : Dat K B G v d → DatK K B G vs ds → DatK K B G ((.inl i, v) :: vs) ((.int i, d) :: ds)
  | consS {x : Str} {v : V} {d : D} {vs : List (Key × V)} {ds : List (D × D)} : Dat K B G v d → DatK K B G vs ds → DatK K B G ((.inr x, v) :: vs) ((.str x, d) :: ds)
inductive DatT (K : PySem.W.Frag) (B : Bx) (G : Hp) : List (List Key × V) → List (D × D) → Prop
  | nil : DatT K B G [] []
  | cons {k : List Key} {v : V} {d : D} {vs : List (List Key × V)} {ds : List (D × D)} : Dat K B G v d → DatT K B G vs ds → DatT K B G ((k, v) :: vs) ((embT k, d) :: ds)
end
section
variable {K : PySem.W.Frag} {B : Bx} {G G' : Hp}
mutual
theorem Dat.mono (e : Ex G G') : ∀ {v : V} {d : D}, Dat K B G v d → Dat K B G' v d
  | _, _, .non => .non
  | _, _, .bl b => .bl b
  | _, _, .int i => .int i
  | _, _, .str x => .str x
  | _, _, .lst h t => .lst (e _ _ h) (Dats.mono e t)
  | _, _, .tup h t => .tup (e _ _ h) (Dats.mono e t)
  | _, _, .ktup h t => .ktup (ex_t e h) (Dats.mono e t)
  | _, _, .dK h t => .dK (e _ _ h) (DatK.mono e t)
  | _, _, .dT h t => .dT (e _ _ h) (DatT.mono e t)
  | _, _, .bag => .bag
  | _, _, .obj h h2 t => .obj (e _ _ h) (e _ _ h2) (Dats.mono e t)
theorem Dats.mono (e : Ex G G') : ∀ {v : List V} {d : List D}, Dats K B G v d → Dats K B G' v d
  | _, _, .nil => .nil
  | _, _, .cons h t => .cons (Dat.mono e h) (Dats.mono e t)
theorem DatK.mono (e : Ex G G') : ∀ {v : List (Key × V)} {d : List (D × D)}, DatK K B G v d → DatK K B G' v d
  | _, _, .nil => .nil
  | _, _, .consI h t => .consI (Dat.mono e h) (DatK.mono e t)
  | _, _, .consS h t => .consS (Dat.mono e h) (DatK.mono e t)
theorem DatT.mono (e : Ex G G') : ∀ {v : List (List Key × V)} {d : List (D × D)}, DatT K B G v d → DatT K B G' v d
  | _, _, .nil => .nil
  | _, _, .cons h t => .cons (Dat.mono e h) (DatT.mono e t)
end
theorem Dats.len : ∀ {v : List V} {d : List D}, Dats K B G v d → v.length = d.length
  | _, _, .nil => rfl
  | _, _, .cons _ t => by rw [List.length_cons, List.length_cons, Dats.len t]
theorem Dats.get : ∀ {v : List V} {d : List D} {i : Nat} {x : D}, Dats K B G v d → d[i]? = some x → ∃ u, v[i]? = some u ∧ Dat K B G u x
  | _, _, _, _, .nil, e => by simp at e
  | _, _, 0, _, .cons r _, e => by simp at e; subst e; exact ⟨_, rfl, r⟩
  | _, _, i + 1, x, .cons _ t, e => by
    obtain ⟨u, h1, h2⟩ := Dats.get (i := i) (x := x) t (by simpa using e)
    exact ⟨u, by simpa using h1, h2⟩
theorem Dats.append : ∀ {v w : List V} {d e : List D}, Dats K B G v d → Dats K B G w e → Dats K B G (v ++ w) (d ++ e)
  | _, _, _, _, .nil, s => s
  | _, _, _, _, .cons r t, s => .cons r (Dats.append t s)
theorem Dats.drop : ∀ {v : List V} {d : List D} (n : Nat), Dats K B G v d → Dats K B G (v.drop n) (d.drop n)
  | _, _, 0, r => r
  | _, _, _ + 1, .nil => .nil
  | _, _, n + 1, .cons _ t => Dats.drop n t
theorem Dats.take : ∀ {v : List V} {d : List D} (n : Nat), Dats K B G v d → Dats K B G (v.take n) (d.take n)
  | _, _, 0, _ => .nil
  | _, _, _ + 1, .nil => .nil
  | _, _, n + 1, .cons r t => .cons r (Dats.take n t)
theorem Dats.rep {v : List V} {d : List D} (h : Dats K B G v d) : ∀ k : Nat, Dats K B G (List.replicate k v).flatten (List.replicate k d).flatten
  | 0 => .nil
  | k + 1 => by
    rw [List.replicate_succ, List.replicate_succ, List.flatten_cons, List.flatten_cons]
    exact h.append (Dats.rep h k)
end
/-- a tuple that is known stands there -/
theorem tx {K : PySem.W.Frag} {G H : Hp} {a : Addr} {xs : List V} (e : Ex G H) (h : G a = some (.tup xs)) : SqT K H a xs := st_of (e _ _ h)
def BagOk (K : PySem.W.Frag) (B : Bx) (G H : Hp) : Prop :=
  ∃ (a b c : Int) (ns : List Int), H B.b = some (.lst [.int a, .int b, .int c, .ref B.L]) ∧ SqL K G B.L (ns.map V.int) ∧ 0 ≤ a ∧ 0 ≤ b ∧ b < 2147483647 ∧ 0 ≤ c ∧ (∀ n ∈ ns, 0 ≤ n) ∧ ns.length ≤ 63
/-- what may be learnt where it stands: a tuple, a code object -/
def Lrn (a : Addr) (o : HO) : Prop := (∃ vs, o = .tup vs) ∨ ∃ q, o = LamX.CodeO a q
theorem nl {a : Addr} {o : HO} (h : (match o with | .tup _ => false | .ext _ => false | _ => true) = true) : ¬ Lrn a o := by
  rintro (⟨vs, rfl⟩ | ⟨q, rfl⟩)
  · cases h
  · unfold LamX.CodeO at h
    cases h
theorem nlx {a : Addr} {φ : Heap → Prop} (h : ∀ hp o, φ hp → hp.get? a = some o → o.cls ≠ .none) : ¬ Lrn a (.ext φ) := by
  rintro (⟨vs, e⟩ | ⟨q, e⟩)
  · cases e
  · unfold LamX.CodeO at e
    injection e with e
    have g : ({ objs := Array.replicate (a + 1) ({ cls := .none, data := .fields #[.none, .str q default] } : Obj) } : Heap).get? a = some ({ cls := .none, data := .fields #[.none, .str q default] } : Obj) := by
      show (match (Array.replicate (a + 1) ({ cls := .none, data := .fields #[.none, .str q default] } : Obj))[a]? with | some ⟨_, _, .freed, _⟩ => none | o => o) = _
      rw [Array.getElem?_replicate, if_pos (Nat.lt_succ_self a)]
    refine h _ _ ?_ g rfl
    rw [e]
    exact ⟨_, _, _, g, rfl, rfl⟩
/-- something that may not be learnt stands there -/
def Mu (H : Hp) (a : Addr) : Prop := ∃ o, H a = some o ∧ ¬ Lrn a o
theorem Mu.ne {H : Hp} {a : Addr} (h : Mu H a) : H a ≠ none := by
  obtain ⟨o, e, _⟩ := h
  rw [e]
  simp
/-- a table of code stands there, its code objects known -/
def TabG (G H : Hp) (P : Addr) (q : Str) : Prop := ∃ ps : Array Value, H P = some (.tbl ps) ∧ TriplesOk ps.toList ∧ ∀ (pos : Pos) (cv : Value), codeAmong pos ps.toList = some cv → ∃ c, cv = .ref c ∧ G c = some (LamX.CodeO c q)
/-- the tables of code stand; all is as it was at the anchor, or grown -/
structure Xt (B : Bx) (G H : Hp) : Prop where
  tb : ∀ t ∈ B.tb, TabG G H t.1 t.2 ∧ G t.1 = none
  ex : ∀ u, B.up = some u → Ex u.1 G
  keep : ∀ u, B.up = some u → ∀ a o, B.st a → u.2 a = some o → H a = some o
  old : ∀ u, B.up = some u → ∀ a, Mu u.2 a → G a = u.1 a
/-- no table of code -/
def noTb : HO → Bool
  | .tbl _ => false
  | _ => true
structure Jn (K : PySem.W.Frag) (B : Bx) (G H : Hp) : Prop where
  ex : Ex G H
  no : G B.b = none
  bag : BagOk K B G H
  xt : Xt B G H
/-- what is of the anchor's time and may not be learnt still stands so -/
theorem Jn.mu {K : PySem.W.Frag} {B : Bx} {G H : Hp} (j : Jn K B G H) (u : Hp × Hp) (hu : B.up = some u) (a : Addr) (m : Mu u.2 a) : Mu H a := by
  by_cases e : a = B.b
  · subst e
    obtain ⟨_, _, _, _, ho, _⟩ := j.bag
    exact ⟨_, ho, nl rfl⟩
  · by_cases e2 : ∃ t ∈ B.tb, a = t.1
    · obtain ⟨t, h, rfl⟩ := e2
      obtain ⟨⟨ps, h1, _⟩, _⟩ := j.xt.tb t h
      exact ⟨_, h1, nl rfl⟩
    · obtain ⟨o, h1, h2⟩ := m
      exact ⟨o, j.xt.keep u hu a o ⟨e, fun t h z => e2 ⟨t, h, z⟩⟩ h1, h2⟩
theorem Jn.next {K : PySem.W.Frag} {B : Bx} {G H G2 H2 : Hp} (j : Jn K B G H) (ex : Ex G G2) (hk : ∀ a o, ¬ B.nb a → H a = some o → H2 a = some o) (hg : ∀ a, ¬ B.nb a → Mu H a → G2 a = G a)
    (ht : ∀ t ∈ B.tb, (∃ ps, H t.1 = some (.tbl ps)) → H2 t.1 = H t.1 ∧ (G t.1 = none → G2 t.1 = none)) (_ : ∀ a ps, H2 a = some (.tbl ps) → ∃ ps', H a = some (.tbl ps')) : Xt B G2 H2 where
  tb := fun t h => by
    obtain ⟨⟨ps, a, b, c⟩, d⟩ := j.xt.tb t h
    obtain ⟨e1, e2⟩ := ht t h ⟨ps, a⟩
    exact ⟨⟨ps, e1.trans a, b, fun pos cv z => let ⟨c0, z1, z2⟩ := c pos cv z; ⟨c0, z1, ex _ _ z2⟩⟩, e2 d⟩
  ex := fun u h => (j.xt.ex u h).trans ex
  keep := fun u h a o s e => hk a o (fun n => by have z := n.2 u h; rw [z] at e; cases e) (j.xt.keep u h a o s e)
  old := fun u h a m => by
    rw [hg a (fun n => m.ne (n.2 u h)) (j.mu u h a m)]
    exact j.xt.old u h a m
/-- .. where one object was put -/
theorem tbUpd {H : Hp} {p : Addr} {o : HO} (ho : noTb o = true) : ∀ a ps, upd H p o a = some (.tbl ps) → ∃ ps', H a = some (.tbl ps') := fun a ps h => by
  by_cases e : a = p
  · subst e
    rw [upd_same] at h
    cases h
    cases ho
  · rw [upd_ne e] at h
    exact ⟨_, h⟩
/-- the place of an own thing is no table -/
theorem Bx.nb.tab {B : Bx} {p : Addr} (n : B.nb p) : ∀ t ∈ B.tb, t.1 ≠ p := fun t h z => n.1.2 t h z.symm
structure Gr (K : PySem.W.Frag) (B : Bx) (G H G2 H2 : Hp) : Prop where
  ex : Ex G G2
  kp : ∀ a o, B.st a → H a = some o → H2 a = some o
  j : Jn K B G2 H2
  old : ∀ a, Mu H a → G2 a = G a
section
variable {K : PySem.W.Frag} {B : Bx} {G H G2 H2 G3 H3 : Hp}
theorem Jn.at (j : Jn K B G H) : ∃ o, H B.b = some o := let ⟨_, _, _, _, h, _⟩ := j.bag; ⟨_, h⟩
theorem Gr.keep (x : Gr K B G H G2 H2) (a : Addr) (o : HO) (n : B.nb a) (h : H a = some o) : H2 a = some o := x.kp a o n.1 h
theorem Gr.refl (j : Jn K B G H) : Gr K B G H G H := ⟨Ex.refl G, fun _ _ _ h => h, j, fun _ _ => rfl⟩
theorem Gr.mu (x : Gr K B G H G2 H2) {a : Addr} (h : Mu H a) : Mu H2 a := by
  by_cases e : a = B.b
  · subst e
    obtain ⟨_, _, _, _, ho, _⟩ := x.j.bag
    exact ⟨_, ho, nl rfl⟩
  · by_cases e2 : ∃ t ∈ B.tb, a = t.1
    · obtain ⟨t, ht, rfl⟩ := e2
      obtain ⟨⟨ps, h1, _⟩, _⟩ := x.j.xt.tb t ht
      exact ⟨_, h1, nl rfl⟩
    · obtain ⟨o, q, n⟩ := h
      exact ⟨o, x.kp a o ⟨e, fun t ht z => e2 ⟨t, ht, z⟩⟩ q, n⟩
/-- what stands somewhere goes on to stand there -/
theorem Gr.stay (x : Gr K B G H G2 H2) {a : Addr} {o : HO} (h : H a = .some o) : H2 a ≠ none := by
  by_cases e : a = B.b
  · subst e
    obtain ⟨o, ho⟩ := x.j.at
    rw [ho]
    simp
  · by_cases e2 : ∃ t ∈ B.tb, a = t.1
    · obtain ⟨t, ht, rfl⟩ := e2
      obtain ⟨⟨ps, h1, _⟩, _⟩ := x.j.xt.tb t ht
      rw [h1]
      simp
    · rw [x.kp a o ⟨e, fun t ht z => e2 ⟨t, ht, z⟩⟩ h]
      simp
theorem Gr.trans (x : Gr K B G H G2 H2) (y : Gr K B G2 H2 G3 H3) : Gr K B G H G3 H3 where
  ex := x.ex.trans y.ex
  kp := fun a o n h => y.kp a o n (x.kp a o n h)
  j := y.j
  old := fun a h => by
    rw [y.old a (x.mu h), x.old a h]
/-- a new object, known from now on -/
theorem Gr.new {p : Addr} {o : HO} (j : Jn K B G H) (hp : H p = none) (ho : noTb o = true := by rfl) : Gr K B G H (upd G p o) (upd H p o) := by
  have np : G p = none := fresh_back j.ex hp
  have nb : B.b ≠ p := fun e => by obtain ⟨o, ho⟩ := j.at; rw [e, hp] at ho; cases ho
  refine ⟨Ex.new np, fun a u _ h => ?_, ⟨fun a u h => ?_, by rw [upd_ne nb]; exact j.no, ?_, j.next (Ex.new np) (fun a u _ h => by rw [upd_ne (ne_of_none h hp)]; exact h) (fun a _ h => upd_ne fun e => by subst e; exact h.ne hp) (fun t _ ⟨ps, z⟩ => have n : t.1 ≠ p := ne_of_none z hp; ⟨upd_ne n, fun g => by rw [upd_ne n]; exact g⟩) (tbUpd ho)⟩, fun a h => ?_⟩
  · rw [upd_ne (ne_of_none h hp)]; exact h
  · by_cases e : a = p
    · subst e; rw [upd_same] at h ⊢; exact h
    · rw [upd_ne e] at h ⊢; exact j.ex a u h
  · obtain ⟨a, b, c, ns, h1, h2, h3⟩ := j.bag
    exact ⟨a, b, c, ns, by rw [upd_ne nb]; exact h1, ex_l (Ex.new np) h2, h3⟩
  · exact upd_ne fun e => by subst e; exact h.ne hp
/-- a new object, not known -/
theorem Gr.new0 {p : Addr} {o : HO} (j : Jn K B G H) (hp : H p = none) (ho : noTb o = true := by rfl) : Gr K B G H G (upd H p o) := by
  have np : G p = none := fresh_back j.ex hp
  have nb : B.b ≠ p := fun e => by obtain ⟨o, ho⟩ := j.at; rw [e, hp] at ho; cases ho
  refine ⟨Ex.refl G, fun a u _ h => ?_, ⟨fun a u h => ?_, j.no, ?_, j.next (Ex.refl G) (fun a u _ h => by rw [upd_ne (ne_of_none h hp)]; exact h) (fun a _ h => rfl) (fun t _ ⟨ps, z⟩ => have n : t.1 ≠ p := ne_of_none z hp; ⟨upd_ne n, fun g => g⟩) (tbUpd ho)⟩, fun a h => rfl⟩
  · rw [upd_ne (ne_of_none h hp)]; exact h
  · rw [upd_ne (ne_of_none h np)]; exact j.ex a u h
  · obtain ⟨a, b, c, ns, h1, h2, h3⟩ := j.bag
    exact ⟨a, b, c, ns, by rw [upd_ne nb]; exact h1, h2, h3⟩
theorem notTup {a : Addr} {vs : List V} (h : Mu H a) (hp : H a = some (.tup vs)) : False := by
  obtain ⟨o, q, n⟩ := h
  rw [hp] at q
  cases q
  exact n (.inl ⟨_, rfl⟩)
/-- a tuple that stands there is known from now on -/
theorem Gr.learn {p : Addr} {vs : List V} (j : Jn K B G H) (hp : H p = some (.tup vs)) (gp : G p = none) : Gr K B G H (upd G p (.tup vs)) H := by
  have nb : B.b ≠ p := fun e => by
    obtain ⟨_, _, _, _, ho, _⟩ := j.bag
    rw [e, hp] at ho
    cases ho
  refine ⟨Ex.new gp, fun _ _ _ h => h, ⟨fun a u h => ?_, by rw [upd_ne nb]; exact j.no, ?_, j.next (Ex.new gp) (fun _ _ _ h => h) (fun a _ h => upd_ne fun e => by subst e; exact notTup h hp) (fun t _ ⟨ps, z⟩ => ⟨rfl, fun g => by rw [upd_ne fun e => by rw [e, hp] at z; cases z]; exact g⟩) (fun _ _ h => ⟨_, h⟩)⟩, fun a h => upd_ne fun e => ?_⟩
  · by_cases e : a = p
    · subst e; rw [upd_same] at h; cases h; exact hp
    · rw [upd_ne e] at h; exact j.ex a u h
  · obtain ⟨a, b, c, ns, h1, h2, h3⟩ := j.bag
    exact ⟨a, b, c, ns, h1, ex_l (Ex.new gp) h2, h3⟩
  · subst e
    exact notTup h hp
/-- an object of one's own changes -/
theorem Gr.own {p : Addr} {o : HO} (x : Gr K B G H G2 H2) (hp : H p = none) (gp : G2 p = none) (nb : B.nb p) (ho : noTb o = true := by rfl) : Gr K B G H G2 (upd H2 p o) := by
  refine ⟨x.ex, fun a u n h => ?_, ⟨fun a u h => ?_, x.j.no, ?_, x.j.next (Ex.refl _) (fun a u n h => by rw [upd_ne fun e => n (by rw [e]; exact nb)]; exact h) (fun a _ _ => rfl) (fun t h _ => ⟨upd_ne (nb.tab t h), fun g => g⟩) (tbUpd ho)⟩, x.old⟩
  · rw [upd_ne (ne_of_none h hp)]; exact x.kp a u n h
  · rw [upd_ne (ne_of_none h gp)]; exact x.j.ex a u h
  · obtain ⟨a, b, c, ns, h1, h2, h3⟩ := x.j.bag
    exact ⟨a, b, c, ns, by rw [upd_ne (Ne.symm nb.1.1)]; exact h1, h2, h3⟩
/-- an object of one's own becomes known -/
theorem Gr.frz {p : Addr} {o : HO} (x : Gr K B G H G2 H2) (hp : H p = none) (gp : G2 p = none) (nb : B.nb p) (h2 : H2 p = some o) : Gr K B G H (upd G2 p o) H2 := by
  refine ⟨x.ex.trans (Ex.new gp), x.kp, ⟨fun a u h => ?_, by rw [upd_ne (Ne.symm nb.1.1)]; exact x.j.no, ?_, x.j.next (Ex.new gp) (fun _ _ _ h => h) (fun a n _ => upd_ne fun e => n (by rw [e]; exact nb)) (fun t h _ => ⟨rfl, fun g => by rw [upd_ne (nb.tab t h)]; exact g⟩) (fun _ _ h => ⟨_, h⟩)⟩, fun a h => ?_⟩
  · by_cases e : a = p
    · subst e; rw [upd_same] at h; cases h; exact h2
    · rw [upd_ne e] at h; exact x.j.ex a u h
  · obtain ⟨a, b, c, ns, h1, h3, h4⟩ := x.j.bag
    exact ⟨a, b, c, ns, h1, ex_l (Ex.new gp) h3, h4⟩
  · rw [upd_ne fun e => by subst e; exact h.ne hp]
    exact x.old a h
end
section
variable {K : PySem.W.Frag} {B : Bx} {G H G1 L G2 H2 U : Hp} {F : List Addr}
open Classical in
/-- G, and what is known of code objects -/
noncomputable def codG (G G2 : Hp) : Hp := fun a => if ∃ q, G2 a = some (LamX.CodeO a q) then G2 a else G a
/-- behind a lending: the places F stand as they stood -/
theorem Gr.back (j : Jn K B G H) (g : Gr K B G1 L G2 H2) (ex1 : Ex G G1) (lo : ∀ a, a ∉ F → L a = H a) (nf : ∀ p ∈ F, ∃ o, H2 p = some o ∧ ∀ q, o ≠ LamX.CodeO p q) (nbF : ∀ p ∈ F, B.nb p) (gF : ∀ p ∈ F, G p = none)
    (u1 : ∀ a, a ∈ F → U a = H a) (u2 : ∀ a, a ∉ F → U a = H2 a) : Gr K B G H (codG G G2) U := by
  have cd : ∀ a q, G2 a = some (LamX.CodeO a q) → U a = some (LamX.CodeO a q) := fun a q h => by
    have h2 := g.j.ex _ _ h
    have na : a ∉ F := fun z => by
      obtain ⟨o, e, n⟩ := nf a z
      rw [e] at h2
      exact n q (Option.some.inj h2)
    rw [u2 a na]
    exact h2
  have ex : Ex G (codG G G2) := fun a o h => by
    unfold codG
    split
    · exact g.ex _ _ (ex1 _ _ h)
    · exact h
  have old : ∀ a, Mu H a → codG G G2 a = G a := fun a h => by
    unfold codG
    split
    · rename_i hq
      obtain ⟨q, e⟩ := hq
      exfalso
      have h2 := g.j.ex _ _ e
      have na : a ∉ F := fun z => by
        obtain ⟨o, e, n⟩ := nf a z
        rw [e] at h2
        exact n q (Option.some.inj h2)
      obtain ⟨o, z1, z2⟩ := h
      obtain ⟨o', z3, z4⟩ := g.mu ⟨o, (lo a na).trans z1, z2⟩
      rw [h2] at z3
      cases z3
      exact z4 (.inr ⟨q, rfl⟩)
    · rfl
  have nbb : B.b ∉ F := fun z => (nbF _ z).1.1 rfl
  refine ⟨ex, fun a o n h => ?_, ⟨fun a o h => ?_, ?_, ?_, ?_⟩, old⟩
  · by_cases ha : a ∈ F
    · rw [u1 a ha]; exact h
    · rw [u2 a ha]; exact g.kp a o n ((lo a ha).trans h)
  · unfold codG at h
    split at h
    · rename_i hq
      obtain ⟨q, e⟩ := hq
      rw [e] at h
      cases h
      exact cd a q e
    · have na : a ∉ F := fun z => by rw [gF a z] at h; cases h
      rw [u2 a na]
      exact g.j.ex _ _ (g.ex _ _ (ex1 _ _ h))
  · unfold codG
    split
    · rename_i hq
      obtain ⟨q, e⟩ := hq
      rw [g.j.no] at e
      cases e
    · exact j.no
  · obtain ⟨_, _, _, ns, _, h2, _, _, _, _, h7, h8⟩ := j.bag
    obtain ⟨a, b, c, _, h1, _, h3, h4, h5, h6, _, _⟩ := g.j.bag
    exact ⟨a, b, c, ns, by rw [u2 _ nbb]; exact h1, ex_l ex h2, h3, h4, h5, h6, h7, h8⟩
  · refine ⟨fun t h => ?_, fun u h => (j.xt.ex u h).trans ex, fun u h a o s e => ?_, fun u h a m => ?_⟩
    · obtain ⟨⟨ps, z1, z2, z3⟩, z4⟩ := g.j.xt.tb t h
      obtain ⟨_, z5⟩ := j.xt.tb t h
      have nt : t.1 ∉ F := fun z => (nbF _ z).tab t h rfl
      refine ⟨⟨ps, by rw [u2 _ nt]; exact z1, z2, fun pos cv z => ?_⟩, ?_⟩
      · obtain ⟨c, y1, y2⟩ := z3 pos cv z
        refine ⟨c, y1, ?_⟩
        unfold codG
        rw [if_pos ⟨_, y2⟩]
        exact y2
      · unfold codG
        split
        · rename_i hq
          obtain ⟨q, e⟩ := hq
          rw [z4] at e
          cases e
        · exact z5
    · have na : a ∉ F := fun z => by rw [(nbF a z).2 u h] at e; cases e
      rw [u2 a na]
      exact g.j.xt.keep u h a o s e
    · rw [old a (j.mu u h a m)]
      exact j.xt.old u h a m
theorem ncod {a : Addr} {o : HO} (h : ¬ Lrn a o) : ∀ q, o ≠ LamX.CodeO a q := fun q e => h (.inr ⟨q, e⟩)
end
inductive OD where
  | sh (d : D) | lst (xs : List OD) | dic (t : Bool) (ks : List (D × OD))
mutual
inductive Own (K : PySem.W.Frag) (B : Bx) (G H : Hp) : V → OD → List Addr → Prop
  | sh {v : V} {d : D} : Dat K B G v d → Own K B G H v (.sh d) []
  | lst {p : Addr} {vs : List V} {xs : List OD} {f : List Addr} : H p = some (.lst vs) → G p = none → Owns K B G H vs xs f → Own K B G H (.ref p) (.lst xs) (p :: f)
  | dK {p : Addr} {kvs : List (Key × V)} {ks : List (D × OD)} {f : List Addr} : H p = some (.dK kvs) → G p = none → OwnK K B G H kvs ks f → Own K B G H (.ref p) (.dic false ks) (p :: f)
  | dT {p : Addr} {kvs : List (List Key × V)} {ks : List (D × OD)} {f : List Addr} : H p = some (.dT kvs) → G p = none → OwnT K B G H kvs ks f → Own K B G H (.ref p) (.dic true ks) (p :: f)
inductive Owns (K : PySem.W.Frag) (B : Bx) (G H : Hp) : List V → List OD → List Addr → Prop
  | nil : Owns K B G H [] [] []
  | cons {v : V} {o : OD} {f : List Addr} {vs : List V} {os : List OD} {g : List Addr} : Own K B G H v o f → Owns K B G H vs os g → Owns K B G H (v :: vs) (o :: os) (f ++ g)
inductive OwnK (K : PySem.W.Frag) (B : Bx) (G H : Hp) : List (Key × V) → List (D × OD) → List Addr → Prop
  | nil : OwnK K B G H [] [] []
  | consI {i : Int} {v : V} {o : OD} {f : List Addr} {vs : List (Key × V)} {os : List (D × OD)} {g : List Addr} : Own K B G H v o f → OwnK K B G H vs os g → OwnK K B G H ((.inl i, v) :: vs) ((.int i, o) :: os) (f ++ g)
  | consS {x : Str} {v : V} {o : OD} {f : List Addr} {vs : List (Key × V)} {os : List (D × OD)} {g : List Addr} : Own K B G H v o f → OwnK K B G H vs os g → OwnK K B G H ((.inr x, v) :: vs) ((.str x, o) :: os) (f ++ g)
inductive OwnT (K : PySem.W.Frag) (B : Bx) (G H : Hp) : List (List Key × V) → List (D × OD) → List Addr → Prop
  | nil : OwnT K B G H [] [] []
  | cons {k : List Key} {v : V} {o : OD} {f : List Addr} {vs : List (List Key × V)} {os : List (D × OD)} {g : List Addr} : Own K B G H v o f → OwnT K B G H vs os g → OwnT K B G H ((k, v) :: vs) ((embT k, o) :: os) (f ++ g)
end
section
variable {K : PySem.W.Frag} {B : Bx} {G H G2 H2 : Hp}
/-- the places of f stand as they stood -/
def Kept (G H G2 H2 : Hp) (f : List Addr) : Prop := ∀ p ∈ f, H2 p = H p ∧ G2 p = G p
theorem Kept.l {f g : List Addr} (h : Kept G H G2 H2 (f ++ g)) : Kept G H G2 H2 f := fun p hp => h p (List.mem_append_left _ hp)
theorem Kept.r {f g : List Addr} (h : Kept G H G2 H2 (f ++ g)) : Kept G H G2 H2 g := fun p hp => h p (List.mem_append_right _ hp)
theorem Kept.h {p : Addr} {f : List Addr} (h : Kept G H G2 H2 (p :: f)) : H2 p = H p ∧ G2 p = G p := h p List.mem_cons_self
theorem Kept.t {p : Addr} {f : List Addr} (h : Kept G H G2 H2 (p :: f)) : Kept G H G2 H2 f := fun q hq => h q (List.mem_cons_of_mem _ hq)
mutual
theorem Own.keep (e : Ex G G2) : ∀ {v : V} {o : OD} {f : List Addr}, Own K B G H v o f → Kept G H G2 H2 f → Own K B G2 H2 v o f
  | _, _, _, .sh h, _ => .sh (h.mono e)
  | _, _, _, .lst h g t, k => .lst (k.h.1.trans h) (k.h.2.trans g) (Owns.keep e t k.t)
  | _, _, _, .dK h g t, k => .dK (k.h.1.trans h) (k.h.2.trans g) (OwnK.keep e t k.t)
  | _, _, _, .dT h g t, k => .dT (k.h.1.trans h) (k.h.2.trans g) (OwnT.keep e t k.t)
theorem Owns.keep (e : Ex G G2) : ∀ {v : List V} {o : List OD} {f : List Addr}, Owns K B G H v o f → Kept G H G2 H2 f → Owns K B G2 H2 v o f
  | _, _, _, .nil, _ => .nil
  | _, _, _, .cons h t, k => .cons (Own.keep e h k.l) (Owns.keep e t k.r)
theorem OwnK.keep (e : Ex G G2) : ∀ {v : List (Key × V)} {o : List (D × OD)} {f : List Addr}, OwnK K B G H v o f → Kept G H G2 H2 f → OwnK K B G2 H2 v o f
  | _, _, _, .nil, _ => .nil
  | _, _, _, .consI h t, k => .consI (Own.keep e h k.l) (OwnK.keep e t k.r)
  | _, _, _, .consS h t, k => .consS (Own.keep e h k.l) (OwnK.keep e t k.r)
theorem OwnT.keep (e : Ex G G2) : ∀ {v : List (List Key × V)} {o : List (D × OD)} {f : List Addr}, OwnT K B G H v o f → Kept G H G2 H2 f → OwnT K B G2 H2 v o f
  | _, _, _, .nil, _ => .nil
  | _, _, _, .cons h t, k => .cons (Own.keep e h k.l) (OwnT.keep e t k.r)
end
/-- an own place: a list or a dict stands there, and nobody knows it -/
def Node (G H : Hp) (p : Addr) : Prop := G p = none ∧ ((∃ vs, H p = some (.lst vs)) ∨ (∃ vs, H p = some (.dK vs)) ∨ ∃ vs, H p = some (.dT vs))
theorem Node.at {p : Addr} (n : Node G H p) : Mu H p := by
  rcases n.2 with ⟨_, h⟩ | ⟨_, h⟩ | ⟨_, h⟩ <;> exact ⟨_, h, nl rfl⟩
mutual
theorem Own.node : ∀ {v : V} {o : OD} {f : List Addr}, Own K B G H v o f → ∀ p ∈ f, Node G H p
  | _, _, _, .sh _, p, hp => nomatch hp
  | _, _, _, .lst h g t, p, hp => (List.mem_cons.mp hp).elim (fun e => by subst e; exact ⟨g, .inl ⟨_, h⟩⟩) (Owns.node t p)
  | _, _, _, .dK h g t, p, hp => (List.mem_cons.mp hp).elim (fun e => by subst e; exact ⟨g, .inr (.inl ⟨_, h⟩)⟩) (OwnK.node t p)
  | _, _, _, .dT h g t, p, hp => (List.mem_cons.mp hp).elim (fun e => by subst e; exact ⟨g, .inr (.inr ⟨_, h⟩)⟩) (OwnT.node t p)
theorem Owns.node : ∀ {v : List V} {o : List OD} {f : List Addr}, Owns K B G H v o f → ∀ p ∈ f, Node G H p
  | _, _, _, .nil, p, hp => nomatch hp
  | _, _, _, .cons h t, p, hp => (List.mem_append.mp hp).elim (Own.node h p) (Owns.node t p)
theorem OwnK.node : ∀ {v : List (Key × V)} {o : List (D × OD)} {f : List Addr}, OwnK K B G H v o f → ∀ p ∈ f, Node G H p
  | _, _, _, .nil, p, hp => nomatch hp
  | _, _, _, .consI h t, p, hp => (List.mem_append.mp hp).elim (Own.node h p) (OwnK.node t p)
  | _, _, _, .consS h t, p, hp => (List.mem_append.mp hp).elim (Own.node h p) (OwnK.node t p)
theorem OwnT.node : ∀ {v : List (List Key × V)} {o : List (D × OD)} {f : List Addr}, OwnT K B G H v o f → ∀ p ∈ f, Node G H p
  | _, _, _, .nil, p, hp => nomatch hp
  | _, _, _, .cons h t, p, hp => (List.mem_append.mp hp).elim (Own.node h p) (OwnT.node t p)
end
mutual
def OD.toD : OD → D
  | .sh d => d
  | .lst xs => .lst (toDs xs)
  | .dic _ ks => .dic (toDk ks)
def toDs : List OD → List D
  | [] => []
  | x :: xs => x.toD :: toDs xs
def toDk : List (D × OD) → List (D × D)
  | [] => []
  | (k, x) :: xs => (k, x.toD) :: toDk xs
end
def frzG (G H : Hp) (f : List Addr) : Hp := fun a => if a ∈ f then H a else G a
theorem frz_ex {f : List Addr} (h : ∀ p ∈ f, G p = none) : Ex G (frzG G H f) := fun a o e => by
  unfold frzG
  rw [if_neg fun z => by rw [h a z] at e; cases e]
  exact e
theorem frz_in {f : List Addr} {p : Addr} (h : p ∈ f) : frzG G H f p = H p := if_pos h
/-- the dicts at these places are locked -/
structure Lkd (H L : Hp) (f : List Addr) : Prop where
  out : ∀ p, p ∉ f → L p = H p
  lst : ∀ p vs, H p = some (.lst vs) → L p = some (.lst vs)
  dK : ∀ p vs, p ∈ f → H p = some (.dK vs) → ∃ od, L p = some (.frz od (.dK vs))
  dT : ∀ p vs, p ∈ f → H p = some (.dT vs) → ∃ od, L p = some (.frz od (.dT vs))
  tb : ∀ p ps, L p = some (.tbl ps) → H p = some (.tbl ps)
mutual
theorem Own.dat {L : Hp} {F : List Addr} (hF : ∀ p ∈ F, G p = none) (hL : Lkd H L F) : ∀ {v : V} {o : OD} {f : List Addr}, Own K B G H v o f → (∀ p ∈ f, p ∈ F) → Dat K B (frzG G L F) v o.toD
  | _, _, _, .sh h, _ => h.mono (frz_ex hF)
  | _, _, _, .lst h g t, k => .lst ((frz_in (k _ List.mem_cons_self)).trans (hL.lst _ _ h)) (Owns.dat hF hL t fun p hp => k p (List.mem_cons_of_mem _ hp))
  | _, _, _, .dK h g t, k => let ⟨_, e⟩ := hL.dK _ _ (k _ List.mem_cons_self) h; .dK ((frz_in (k _ List.mem_cons_self)).trans e) (OwnK.dat hF hL t fun p hp => k p (List.mem_cons_of_mem _ hp))
  | _, _, _, .dT h g t, k => let ⟨_, e⟩ := hL.dT _ _ (k _ List.mem_cons_self) h; .dT ((frz_in (k _ List.mem_cons_self)).trans e) (OwnT.dat hF hL t fun p hp => k p (List.mem_cons_of_mem _ hp))
theorem Owns.dat {L : Hp} {F : List Addr} (hF : ∀ p ∈ F, G p = none) (hL : Lkd H L F) : ∀ {v : List V} {o : List OD} {f : List Addr}, Owns K B G H v o f → (∀ p ∈ f, p ∈ F) → Dats K B (frzG G L F) v (toDs o)
  | _, _, _, .nil, _ => .nil
  | _, _, _, .cons h t, k => .cons (Own.dat hF hL h fun p hp => k p (List.mem_append_left _ hp)) (Owns.dat hF hL t fun p hp => k p (List.mem_append_right _ hp))
theorem OwnK.dat {L : Hp} {F : List Addr} (hF : ∀ p ∈ F, G p = none) (hL : Lkd H L F) : ∀ {v : List (Key × V)} {o : List (D × OD)} {f : List Addr}, OwnK K B G H v o f → (∀ p ∈ f, p ∈ F) → DatK K B (frzG G L F) v (toDk o)
  | _, _, _, .nil, _ => .nil
  | _, _, _, .consI h t, k => .consI (Own.dat hF hL h fun p hp => k p (List.mem_append_left _ hp)) (OwnK.dat hF hL t fun p hp => k p (List.mem_append_right _ hp))
  | _, _, _, .consS h t, k => .consS (Own.dat hF hL h fun p hp => k p (List.mem_append_left _ hp)) (OwnK.dat hF hL t fun p hp => k p (List.mem_append_right _ hp))
theorem OwnT.dat {L : Hp} {F : List Addr} (hF : ∀ p ∈ F, G p = none) (hL : Lkd H L F) : ∀ {v : List (List Key × V)} {o : List (D × OD)} {f : List Addr}, OwnT K B G H v o f → (∀ p ∈ f, p ∈ F) → DatT K B (frzG G L F) v (toDk o)
  | _, _, _, .nil, _ => .nil
  | _, _, _, .cons h t, k => .cons (Own.dat hF hL h fun p hp => k p (List.mem_append_left _ hp)) (OwnT.dat hF hL t fun p hp => k p (List.mem_append_right _ hp))
end
/-- a list of data, all shared -/
theorem Owns.of : ∀ {vs : List V} {ds : List D}, Dats K B G vs ds → Owns K B G H vs (ds.map .sh) []
  | _, _, .nil => .nil
  | _, _, .cons h t => .cons (.sh h) (Owns.of t)
theorem toDs_sh : ∀ ds : List D, toDs (ds.map .sh) = ds
  | [] => rfl
  | d :: ds => by rw [List.map_cons, toDs, toDs_sh ds]; rfl
end
inductive SD where
  | sh (d : D) | ow (v : V) (o : OD) | nw (x : Addr) (C : Nat) (fs : List (Option D))
def FldOk (K : PySem.W.Frag) (B : Bx) (G : Hp) (vs : List (Option V)) (fs : List (Option D)) : Prop :=
  vs.length = fs.length ∧ ∀ (i : Nat) (d : D), fs[i]? = some (some d) → ∃ v, vs[i]? = some (some v) ∧ Dat K B G v d
theorem FldOk.mono {K : PySem.W.Frag} {B : Bx} {G G2 : Hp} {vs : List (Option V)} {fs : List (Option D)} (h : FldOk K B G vs fs) (e : Ex G G2) : FldOk K B G2 vs fs :=
  ⟨h.1, fun i d q => let ⟨v, a, b⟩ := h.2 i d q; ⟨v, a, b.mono e⟩⟩
/-- an instance that is being made: its fields so far -/
structure NwAt (K : PySem.W.Frag) (B : Bx) (H0 G H : Hp) (x : Addr) (C : Nat) (dx : Addr) (vs : List (Option V)) (fs : List (Option D)) : Prop where
  sl : SlX.Slt H x (B.ct C) dx vs
  dc : H dx = some (.own x) ∨ H dx = some (.xd [])
  ne : dx ≠ x
  gx : G x = none
  gd : G dx = none
  hx : H0 x = none
  hd : H0 dx = none
  bx : B.nb x
  bd : B.nb dx
  fl : FldOk K B G vs fs
theorem slO_mu {H : Hp} {x C dx : Addr} {vs : List (Option V)} (h : H x = some (SlX.SlO x C dx vs)) : Mu H x := ⟨_, h, nlx fun hp o z g => by
  obtain ⟨sl, e, _⟩ := z
  rw [e] at g
  cases g
  simp⟩
theorem slt_keep {H H2 : Hp} {x C dx : Addr} {vs : List (Option V)} (h : SlX.Slt H x C dx vs) (k1 : ∀ o, H x = some o → H2 x = some o) (k2 : ∀ o, H dx = some o → H2 dx = some o) : SlX.Slt H2 x C dx vs := by
  rcases h with ⟨a, b⟩ | ⟨a, b⟩
  · exact .inl ⟨k1 _ a, b⟩
  · exact .inr ⟨k1 _ a, k2 _ b⟩
theorem NwAt.keep {K : PySem.W.Frag} {B : Bx} {H0 G H G2 H2 : Hp} {x dx : Addr} {C : Nat} {vs : List (Option V)} {fs : List (Option D)} (n : NwAt K B H0 G H x C dx vs fs) (e : Ex G G2) (k : Kept G H G2 H2 [x, dx]) : NwAt K B H0 G2 H2 x C dx vs fs := by
  have k1 := k x (by simp)
  have k2 := k dx (by simp)
  exact ⟨slt_keep n.sl (fun o z => k1.1.trans z) (fun o z => k2.1.trans z), n.dc.imp (fun z => k2.1.trans z) (fun z => k2.1.trans z), n.ne, k1.2.trans n.gx, k2.2.trans n.gd, n.hx, n.hd, n.bx, n.bd, n.fl.mono e⟩
abbrev DS := List (Option SD)
/-- what stands in a slot, and the places that are its own -/
inductive SlotOk (K : PySem.W.Frag) (B : Bx) (H0 G H : Hp) : Option V → Option SD → List Addr → Prop
  | no {ov : Option V} : SlotOk K B H0 G H ov none []
  | sh {v : V} {d : D} : Dat K B G v d → SlotOk K B H0 G H (some v) (some (.sh d)) []
  | ow {v : V} {o : OD} {f : List Addr} : Own K B G H v o f → f.Nodup → (∀ p ∈ f, H0 p = none ∧ B.nb p) → SlotOk K B H0 G H (some v) (some (.ow v o)) f
  | nw {x dx : Addr} {C : Nat} {vs : List (Option V)} {fs : List (Option D)} : NwAt K B H0 G H x C dx vs fs → SlotOk K B H0 G H (some (.ref x)) (some (.nw x C fs)) [x, dx]
section
variable {K : PySem.W.Frag} {B : Bx} {H0 G H G2 H2 : Hp} {σ : L2.St} {δ : DS} {ov : Option V} {od : Option SD} {f : List Addr}
theorem SlotOk.keep (s : SlotOk K B H0 G H ov od f) (e : Ex G G2) (k : Kept G H G2 H2 f) : SlotOk K B H0 G2 H2 ov od f := by
  cases s with
  | no => exact .no
  | sh h => exact .sh (h.mono e)
  | ow h n q => exact .ow (h.keep e k) n q
  | nw n => exact .nw (n.keep e k)
theorem SlotOk.at (s : SlotOk K B H0 G H ov od f) : ∀ p ∈ f, Mu H p ∧ B.nb p ∧ G p = none ∧ H0 p = none := by
  cases s with
  | no => exact fun p hp => nomatch hp
  | sh h => exact fun p hp => nomatch hp
  | ow h n q => exact fun p hp => ⟨(h.node p hp).at, (q p hp).2, (h.node p hp).1, (q p hp).1⟩
  | @nw x dx C vs fs n =>
    intro p hp
    rcases (show p = x ∨ p = dx by simpa using hp) with rfl | rfl
    · exact ⟨by
        rcases n.sl with ⟨q, _⟩ | ⟨q, _⟩
        · exact ⟨_, q, nl rfl⟩
        · exact slO_mu q, n.bx, n.gx, n.hx⟩
    · exact ⟨by rcases n.dc with q | q <;> exact ⟨_, q, nl rfl⟩, n.bd, n.gd, n.hd⟩
/-- all slots, by their own places -/
structure StF (K : PySem.W.Frag) (B : Bx) (H0 G H : Hp) (σ : L2.St) (δ : DS) (F : Nat → List Addr) : Prop where
  len : σ.length = δ.length
  at_ : ∀ (i : Nat) (ov : Option V) (od : Option SD), σ[i]? = some ov → δ[i]? = some od → SlotOk K B H0 G H ov od (F i)
  dj : ∀ (i j : Nat), i < σ.length → j < σ.length → i ≠ j → ∀ p ∈ F i, p ∉ F j
structure StOk (K : PySem.W.Frag) (B : Bx) (H0 G H : Hp) (σ : L2.St) (δ : DS) : Prop where
  ex : ∃ F, StF K B H0 G H σ δ F
theorem StOk.len (x : StOk K B H0 G H σ δ) : σ.length = δ.length := let ⟨_, h⟩ := x.ex; h.len
theorem StF.get {F : Nat → List Addr} (x : StF K B H0 G H σ δ F) {i : Nat} {od : Option SD} (h : δ[i]? = some od) : ∃ ov, σ[i]? = some ov ∧ SlotOk K B H0 G H ov od (F i) := by
  have hl : i < σ.length := by rw [x.len]; exact (List.getElem?_eq_some_iff.mp h).1
  exact ⟨σ[i], List.getElem?_eq_getElem hl, x.at_ i _ od (List.getElem?_eq_getElem hl) h⟩
theorem StOk.sh (x : StOk K B H0 G H σ δ) (i : Nat) (d : D) (h : δ[i]? = some (some (.sh d))) : ∃ v, σ[i]? = some (some v) ∧ Dat K B G v d := by
  obtain ⟨F, y⟩ := x.ex
  obtain ⟨ov, h1, s⟩ := y.get h
  generalize F i = f at s
  cases s with
  | sh q => exact ⟨_, h1, q⟩
theorem StOk.nw (x : StOk K B H0 G H σ δ) (i : Nat) (a : Addr) (C : Nat) (fs : List (Option D)) (h : δ[i]? = some (some (.nw a C fs))) : ∃ dx vs, σ[i]? = some (some (.ref a)) ∧ NwAt K B H0 G H a C dx vs fs := by
  obtain ⟨F, y⟩ := x.ex
  obtain ⟨ov, h1, s⟩ := y.get h
  generalize F i = f at s
  cases s with
  | nw n => exact ⟨_, _, h1, n⟩
theorem StF.ow {F : Nat → List Addr} (x : StF K B H0 G H σ δ F) {i : Nat} {v : V} {o : OD} (h : δ[i]? = some (some (.ow v o))) : σ[i]? = some (some v) ∧ Own K B G H v o (F i) ∧ (F i).Nodup ∧ ∀ p ∈ F i, H0 p = none ∧ B.nb p := by
  obtain ⟨ov, h1, s⟩ := x.get h
  generalize F i = f at s ⊢
  cases s with
  | ow a b c => exact ⟨h1, a, b, c⟩
/-- one slot changes, and what is its own -/
theorem StF.put {F : Nat → List Addr} {i : Nat} {fi : List Addr} (x : StF K B H0 G H σ δ F) (hi : i < σ.length) (e : Ex G G2) (hk : ∀ p, Mu H p → B.nb p → p ∉ F i → H2 p = H p ∧ G2 p = G p) (s : SlotOk K B H0 G2 H2 ov od fi) (hf : ∀ p ∈ fi, H p = none ∨ p ∈ F i) :
    StF K B H0 G2 H2 (σ.set i ov) (δ.set i od) (fun j => if j = i then fi else F j) where
  len := by rw [List.length_set, List.length_set]; exact x.len
  at_ := fun j uv ud h1 h2 => by
    by_cases hj : i = j
    · subst hj
      have hl : i < σ.length := by have := (List.getElem?_eq_some_iff.mp h1).1; rwa [List.length_set] at this
      rw [List.getElem?_set_self hl] at h1
      rw [List.getElem?_set_self (by rw [← x.len]; exact hl)] at h2
      cases h1
      cases h2
      rw [if_pos rfl]
      exact s
    · rw [List.getElem?_set_ne hj] at h1 h2
      rw [if_neg (Ne.symm hj)]
      have q := x.at_ j uv ud h1 h2
      have hlj : j < σ.length := (List.getElem?_eq_some_iff.mp h1).1
      refine q.keep e fun p hp => ?_
      have a := q.at p hp
      exact hk p a.1 a.2.1 (x.dj j i hlj hi (Ne.symm hj) p hp)
  dj := fun a b ha hb hab p hp hq => by
    rw [List.length_set] at ha hb
    by_cases h1 : a = i
    · rw [if_pos h1] at hp
      have h2 : b ≠ i := fun z => hab (h1.trans z.symm)
      rw [if_neg h2] at hq
      obtain ⟨ud, hud⟩ : ∃ ud, δ[b]? = some ud := ⟨δ[b]'(by rw [← x.len]; exact hb), List.getElem?_eq_getElem _⟩
      obtain ⟨uv, huv, q⟩ := x.get hud
      rcases hf p hp with z | z
      · exact (q.at p hq).1.ne z
      · exact x.dj i b (h1 ▸ ha) hb (Ne.symm h2) p z hq
    · rw [if_neg h1] at hp
      by_cases h2 : b = i
      · rw [if_pos h2] at hq
        obtain ⟨ud, hud⟩ : ∃ ud, δ[a]? = some ud := ⟨δ[a]'(by rw [← x.len]; exact ha), List.getElem?_eq_getElem _⟩
        obtain ⟨uv, huv, q⟩ := x.get hud
        rcases hf p hq with z | z
        · exact (q.at p hp).1.ne z
        · exact x.dj a i ha (h2 ▸ hb) h1 p hp z
      · rw [if_neg h2] at hq
        exact x.dj a b ha hb hab p hp hq
end
section
variable {K : PySem.W.Frag} {B : Bx} {H0 G H G2 H2 : Hp} {σ : L2.St} {δ : DS}
theorem StF.gr {F : Nat → List Addr} (x : StF K B H0 G H σ δ F) (g : Gr K B G H G2 H2) : StF K B H0 G2 H2 σ δ F where
  len := x.len
  dj := x.dj
  at_ := fun i ov od h1 h2 => (x.at_ i ov od h1 h2).keep g.ex fun p hp => by
    have a := (x.at_ i ov od h1 h2).at p hp
    refine ⟨?_, g.old p a.1⟩
    cases q : H p with
    | none => exact absurd q a.1.ne
    | some o => exact g.keep p o a.2.1 q
theorem StOk.gr (x : StOk K B H0 G H σ δ) (g : Gr K B G H G2 H2) : StOk K B H0 G2 H2 σ δ := let ⟨F, y⟩ := x.ex; ⟨F, y.gr g⟩
theorem set_out {α : Type} {l : List α} {i : Nat} {a : α} (h : ¬ i < l.length) : l.set i a = l := by
  apply List.ext_getElem?
  intro j
  by_cases hj : i = j
  · subst hj
    rw [List.getElem?_eq_none_iff.mpr (by rw [List.length_set]; omega), List.getElem?_eq_none_iff.mpr (by omega)]
  · rw [List.getElem?_set_ne hj]
theorem StOk.put0 {i : Nat} {ov : Option V} {od : Option SD} (x : StOk K B H0 G H σ δ) (s : SlotOk K B H0 G H ov od []) : StOk K B H0 G H (σ.set i ov) (δ.set i od) := by
  by_cases hi : i < σ.length
  · obtain ⟨F, y⟩ := x.ex
    exact ⟨_, y.put hi (Ex.refl G) (fun _ _ _ _ => ⟨rfl, rfl⟩) s fun p hp => nomatch hp⟩
  · rw [set_out hi, set_out (by rw [← x.len]; exact hi)]
    exact x
/-- a slot is filled with data -/
theorem StOk.set {i : Nat} {v : V} {d : D} (x : StOk K B H0 G H σ δ) (h : Dat K B G v d) : StOk K B H0 G H (σ.set i (some v)) (δ.set i (some (.sh d))) := x.put0 (.sh h)
/-- less is known of a slot -/
theorem StOk.forget {i : Nat} {o : Option V} (x : StOk K B H0 G H σ δ) : StOk K B H0 G H (σ.set i o) (δ.set i none) := x.put0 .no
/-- a slot is filled with what is new and one's own -/
theorem StOk.setO {i : Nat} {v : V} {o : OD} {f : List Addr} (x : StOk K B H0 G H σ δ) (g : Gr K B G H G2 H2) (h : Own K B G2 H2 v o f) (nd : f.Nodup) (hf : ∀ p ∈ f, H p = none ∧ H0 p = none ∧ B.nb p) : StOk K B H0 G2 H2 (σ.set i (some v)) (δ.set i (some (.ow v o))) := by
  by_cases hi : i < σ.length
  · obtain ⟨F, y⟩ := x.ex
    refine ⟨_, y.put hi g.ex (fun p h1 h2 _ => ⟨?_, g.old p h1⟩) (.ow h nd fun p hp => (hf p hp).2) fun p hp => .inl (hf p hp).1⟩
    cases q : H p with
    | none => exact absurd q h1.ne
    | some o => exact g.keep p o h2 q
  · rw [set_out hi, set_out (by rw [← x.len]; exact hi)]
    exact x.gr g
end
end DL
namespace DL
open PySem PySem.Spec PyProof.Rows L2 Evl
abbrev DE := DS → (D → Prop) → Prop
abbrev DA := DS → (List D → Prop) → Prop
abbrev DT := DS → (Bool → Prop) → Prop
structure DEnds where
  nx : DS → Prop
  rt : D → Prop
  bk : DS → Prop := fun _ => False
  ct : DS → Prop := fun _ => False
  ro : OD → Prop := fun _ => False
abbrev DTS := DEnds → DS → Prop
abbrev DG := D → DS → (DS → Prop) → Prop
abbrev DGs := List D → DS → (DS → Prop) → Prop
def liftE (K : PySem.W.Frag) (B : Bx) (r : DE) : TE := fun σ H P => ∃ (H0 G : Hp) (δ : DS) (Q : D → Prop), Jn K B G H ∧ StOk K B H0 G H σ δ ∧ r δ Q ∧ ∀ d v G2 H2, Q d → Gr K B G H G2 H2 → Dat K B G2 v d → P v H2
/-- a new list that nobody knows -/
def liftF (K : PySem.W.Frag) (B : Bx) (r : DA) : TE := fun σ H P => ∃ (H0 G : Hp) (δ : DS) (Q : List D → Prop), Jn K B G H ∧ StOk K B H0 G H σ δ ∧ r δ Q ∧ ∀ ds p vs G2 H2, Q ds → Gr K B G H G2 H2 → H p = none → G2 p = none → H2 p = some (.lst vs) → Dats K B G2 vs ds → P (.ref p) H2
def liftA (K : PySem.W.Frag) (B : Bx) (r : DA) : TA := fun σ H P => ∃ (H0 G : Hp) (δ : DS) (Q : List D → Prop), Jn K B G H ∧ StOk K B H0 G H σ δ ∧ r δ Q ∧ ∀ ds vs G2 H2, Q ds → Gr K B G H G2 H2 → Dats K B G2 vs ds → P vs H2
def liftT (K : PySem.W.Frag) (B : Bx) (r : DT) : TT := fun σ H P => ∃ (H0 G : Hp) (δ : DS) (Q : Bool → Prop), Jn K B G H ∧ StOk K B H0 G H σ δ ∧ r δ Q ∧ ∀ b G2 H2, Q b → Gr K B G H G2 H2 → P b H2
structure Endy (K : PySem.W.Frag) (B : Bx) (G0 H0 Gc : Hp) (W : DEnds) (E : Ends) : Prop where
  nx : ∀ σ δ G H, W.nx δ → Gr K B G0 H0 G H → Ex Gc G → StOk K B H0 G H σ δ → E.nx σ H
  bk : ∀ σ δ G H, W.bk δ → Gr K B G0 H0 G H → Ex Gc G → StOk K B H0 G H σ δ → E.bk σ H
  ct : ∀ σ δ G H, W.ct δ → Gr K B G0 H0 G H → Ex Gc G → StOk K B H0 G H σ δ → E.ct σ H
  rt : ∀ d v G H, W.rt d → Gr K B G0 H0 G H → Ex Gc G → Dat K B G v d → E.rt v H
  ro : ∀ o v f G H, W.ro o → Gr K B G0 H0 G H → Ex Gc G → Own K B G H v o f → f.Nodup → (∀ p ∈ f, H0 p = none ∧ B.nb p) → E.rt v H
theorem Endy.up {K : PySem.W.Frag} {B : Bx} {G0 H0 Gc Gd : Hp} {W : DEnds} {E : Ends} (k : Endy K B G0 H0 Gc W E) (e : Ex Gc Gd) : Endy K B G0 H0 Gd W E :=
  ⟨fun σ δ G H a b c d => k.nx σ δ G H a b (e.trans c) d, fun σ δ G H a b c d => k.bk σ δ G H a b (e.trans c) d, fun σ δ G H a b c d => k.ct σ δ G H a b (e.trans c) d, fun d v G H a b c h => k.rt d v G H a b (e.trans c) h, fun o v f G H a b c h => k.ro o v f G H a b (e.trans c) h⟩
def liftS (K : PySem.W.Frag) (B : Bx) (t : DTS) : TS := fun E σ H => ∃ (G0 H0 G : Hp) (δ : DS) (W : DEnds), Gr K B G0 H0 G H ∧ StOk K B H0 G H σ δ ∧ t W δ ∧ Endy K B G0 H0 G W E
/-- only these slots are stored -/
def Upd (is : List Nat) (σ σ' : L2.St) : Prop := σ'.length = σ.length ∧ ∀ j : Nat, j ∉ is → σ'[j]? = σ[j]?
theorem Upd.refl (is : List Nat) (σ : L2.St) : Upd is σ σ := ⟨rfl, fun _ _ => rfl⟩
theorem Upd.trans {is js : List Nat} {σ σ' σ2 : L2.St} (a : Upd is σ σ') (b : Upd js σ' σ2) : Upd (is ++ js) σ σ2 :=
  ⟨b.1.trans a.1, fun j hj => (b.2 j fun z => hj (List.mem_append_right _ z)).trans (a.2 j fun z => hj (List.mem_append_left _ z))⟩
theorem wipe_at (σ : L2.St) (j : Nat) : ∀ vs : List Nat, (wipe σ vs)[j]? = if j ∈ vs ∧ j < σ.length then some none else σ[j]?
  | [] => by simp [wipe]
  | v :: vs => by
    unfold wipe
    by_cases e : v = j
    · subst e
      by_cases hl : v < σ.length
      · rw [List.getElem?_set_self (by rw [wipe_length]; exact hl), if_pos ⟨by simp, hl⟩]
      · rw [List.getElem?_eq_none_iff.mpr (by rw [List.length_set, wipe_length]; omega), if_neg (fun z => hl z.2), List.getElem?_eq_none_iff.mpr (by omega)]
    · rw [List.getElem?_set_ne e, wipe_at σ j vs]
      have : (j ∈ v :: vs) ↔ (j ∈ vs) := by simp [Ne.symm e]
      simp only [this]
theorem Upd.wipe {is vs : List Nat} {σ σ' : L2.St} (a : Upd is σ σ') (h : ∀ i ∈ is, i ∈ vs) : L2.wipe σ' vs = L2.wipe σ vs := by
  apply List.ext_getElem?
  intro j
  rw [wipe_at, wipe_at, a.1]
  by_cases hj : j ∈ vs
  · by_cases hl : j < σ.length
    · rw [if_pos ⟨hj, hl⟩, if_pos ⟨hj, hl⟩]
    · rw [if_neg (fun z => hl z.2), if_neg (fun z => hl z.2), List.getElem?_eq_none_iff.mpr (by rw [a.1]; omega), List.getElem?_eq_none_iff.mpr (by omega)]
  · rw [if_neg (fun z => hj z.1), if_neg (fun z => hj z.1)]
    exact a.2 j fun z => hj (h j z)
theorem wipe_wipe (σ : L2.St) (vs : List Nat) : wipe (wipe σ vs) vs = wipe σ vs := by
  apply List.ext_getElem?
  intro j
  rw [wipe_at, wipe_at, wipe_length]
  by_cases h : j ∈ vs ∧ j < σ.length
  · simp [h]
  · simp [h]
def liftG (K : PySem.W.Frag) (B : Bx) (is : List Nat) (g : DG) : TG := fun v σ H R => ∃ (H0 G : Hp) (δ : DS) (d : D) (Q : DS → Prop), Jn K B G H ∧ StOk K B H0 G H σ δ ∧ Dat K B G v d ∧ g d δ Q ∧ ∀ σ' δ', Q δ' → StOk K B H0 G H σ' δ' → Upd is σ σ' → R σ' H
def liftGs (K : PySem.W.Frag) (B : Bx) (is : List Nat) (g : DGs) : TGs := fun vs σ H R => ∃ (H0 G : Hp) (δ : DS) (ds : List D) (Q : DS → Prop), Jn K B G H ∧ StOk K B H0 G H σ δ ∧ Dats K B G vs ds ∧ g ds δ Q ∧ ∀ σ' δ', Q δ' → StOk K B H0 G H σ' δ' → Upd is σ σ' → R σ' H
abbrev PD (X : Cx) (B : Bx) (e : Expr) (r : DE) : Prop := PE X e (liftE X.K B r)
abbrev PF (X : Cx) (B : Bx) (e : Expr) (r : DA) : Prop := PE X e (liftF X.K B r)
abbrev PAD (X : Cx) (B : Bx) (es : List Expr) (r : DA) : Prop := PA X es (liftA X.K B r)
abbrev PTD (X : Cx) (B : Bx) (e : Expr) (r : DT) : Prop := PT X e (liftT X.K B r)
abbrev PWD (X : Cx) (B : Bx) (e : Expr) (r : DT) : Prop := PW X e (liftT X.K B r)
abbrev PSD (X : Cx) (B : Bx) (st : Stmt) (t : DTS) : Prop := PS X st (liftS X.K B t)
abbrev PSsD (X : Cx) (B : Bx) (st : List Stmt) (t : DTS) : Prop := PSs X st (liftS X.K B t)
abbrev PGD (X : Cx) (B : Bx) (e : Expr) (is : List Nat) (g : DG) : Prop := PG X e (liftG X.K B is g)
abbrev PGsD (X : Cx) (B : Bx) (es : List Expr) (is : List Nat) (g : DGs) : Prop := PGs X es (liftGs X.K B is g)
theorem pe_mono {X : Cx} {e : Expr} {t t' : TE} (h : PE X e t) (m : ∀ σ H Q, t' σ H Q → t σ H Q) : PE X e t' := ⟨fun pins s σ H Q I hw => h.run pins s σ H Q I (m σ H Q hw)⟩
theorem pt_mono {X : Cx} {e : Expr} {t t' : TT} (h : PT X e t) (m : ∀ σ H Q, t' σ H Q → t σ H Q) : PT X e t' := ⟨fun pins s σ H Q I hw => h.run pins s σ H Q I (m σ H Q hw)⟩
theorem pw_mono {X : Cx} {e : Expr} {t t' : TT} (h : PW X e t) (m : ∀ σ H Q, t' σ H Q → t σ H Q) : PW X e t' := ⟨fun wh pins s σ H Q I hw => h.run wh pins s σ H Q I (m σ H Q hw)⟩
theorem pa_mono {X : Cx} {e : List Expr} {t t' : TA} (h : PA X e t) (m : ∀ σ H Q, t' σ H Q → t σ H Q) : PA X e t' := ⟨fun pos pins s σ H Q I hw => h.run pos pins s σ H Q I (m σ H Q hw)⟩
theorem ps_mono {X : Cx} {e : Stmt} {t t' : TS} (h : PS X e t) (m : ∀ E σ H, t' E σ H → t E σ H) : PS X e t' := ⟨fun pins s σ H E I hw => h.run pins s σ H E I (m E σ H hw)⟩
theorem pss_mono {X : Cx} {e : List Stmt} {t t' : TS} (h : PSs X e t) (m : ∀ E σ H, t' E σ H → t E σ H) : PSs X e t' := ⟨fun pins s σ H E I hw => h.run pins s σ H E I (m E σ H hw)⟩
theorem pg_mono {X : Cx} {e : Expr} {t t' : TG} (h : PG X e t) (m : ∀ v σ H R, t' v σ H R → t v σ H R) : PG X e t' := ⟨fun pins s σ H v u R I r hw => h.run pins s σ H v u R I r (m v σ H R hw)⟩
theorem pgs_mono {X : Cx} {e : List Expr} {t t' : TGs} (h : PGs X e t) (m : ∀ v σ H R, t' v σ H R → t v σ H R) : PGs X e t' := ⟨fun pins s σ H v u R I r hw => h.run pins s σ H v u R I r (m v σ H R hw)⟩
section
variable {X : Cx} {B : Bx} {a b e : Expr} {es : List Expr} {ra rb r : DE} {pos : Pos}
def dVar (i : Nat) : DE := fun δ Q => match δ[i]? with
  | some (some (.sh d)) => Q d
  | _ => False
def dC (d : D) : DE := fun _ Q => Q d
theorem pd_of_var {i : Nat} (h : PE X e (tVar i)) : PD X B e (dVar i) := pe_mono h fun σ H P q => by
  obtain ⟨H0, G, δ, Q, j, st, hr, k⟩ := q
  unfold dVar at hr
  cases h1 : δ[i]? with
  | none => rw [h1] at hr; exact hr.elim
  | some o =>
    cases o with
    | none => rw [h1] at hr; exact hr.elim
    | some x =>
      cases x with
      | ow xs => rw [h1] at hr; exact hr.elim
      | nw _ _ _ => rw [h1] at hr; exact hr.elim
      | sh d =>
        rw [h1] at hr
        obtain ⟨v, hv, hd⟩ := st.sh i d h1
        exact ⟨v, hv, k d v G H hr (Gr.refl j) hd⟩
theorem pd_var (i : Nat) {x : Str} (hN : X.N[i]? = some x := by rfl) (hv : Vis X.env.scope x := by first | exact Or.inl rfl | exact Or.inr (Or.inl rfl) | exact Or.inr (Or.inr rfl)) (hd : (x == ("__debug__" : Str)) = false := by decide)
    (hcd : (x == ("__classdict__" : Str)) = false := by decide) : PD X B (.Name x pos) (dVar i) := pd_of_var (pe_var hN hv hd hcd)
theorem pd_of_c {v : V} {d : D} (h : PE X e (tC v)) (hd : ∀ G, Dat X.K B G v d) : PD X B e (dC d) := pe_mono h fun σ H P q => by
  obtain ⟨H0, G, δ, Q, j, st, hr, k⟩ := q
  exact k d v G H hr (Gr.refl j) (hd G)
theorem pd_int {i : Int} {j : Nat} : PD X B (.Constant (.int i) j pos) (dC (.int i)) := pd_of_c pe_int fun _ => .int i
theorem pd_bl {b : Bool} {j : Nat} : PD X B (.Constant (.bool b) j pos) (dC (.bl b)) := pd_of_c pe_bl fun _ => .bl b
theorem pd_non {j : Nat} : PD X B (.Constant .none j pos) (dC .non) := pd_of_c pe_non fun _ => .non
theorem pd_str {x : Str} {j : Nat} : PD X B (.Constant (.str x) j pos) (dC (.str x)) := pd_of_c pe_str fun _ => .str x
theorem pd_glob {x : Str} {v : V} {u : Value} {d : D} (hg : Gl X x) (hm : X.mg x = some u) (r : RelV v u) (hd : ∀ G, Dat X.K B G v d) (hdb : (x == ("__debug__" : Str)) = false := by decide) : PD X B (.Name x pos) (dC d) := pd_of_c (pe_glob hg hm r hdb) hd
def dNil : DA := fun _ Q => Q []
def dCons (r : DE) (ra : DA) : DA := fun δ Q => r δ fun x => ra δ fun xs => Q (x :: xs)
theorem pad_nil : PAD X B [] dNil := pa_mono pa_nil fun σ H P q => by
  obtain ⟨H0, G, δ, Q, j, st, hr, k⟩ := q
  exact k [] [] G H hr (Gr.refl j) .nil
theorem pad_cons {ra : DA} (h : PD X B e r) (ha : PAD X B es ra) (hs : starEach (e :: es) X.env = (false, eval e X.env) :: starEach es X.env := by rfl) : PAD X B (e :: es) (dCons r ra) := pa_mono (pa_cons h ha hs) fun σ H P q => by
  obtain ⟨H0, G, δ, Q, j, st, hr, k⟩ := q
  refine ⟨H0, G, δ, _, j, st, hr, fun d v G2 H2 q2 g2 h2 => ?_⟩
  refine ⟨H0, G2, δ, _, g2.j, st.gr g2, q2, fun ds vs G3 H3 q3 g3 h3 => ?_⟩
  exact k _ _ G3 H3 q3 (g2.trans g3) (.cons (h2.mono g3.ex) h3)
def dTup (ra : DA) : DE := fun δ Q => ra δ fun ds => match decide (ds.length ≤ 1000) with
  | true => Q (.tup ds)
  | false => False
def fLst (ra : DA) : DA := fun δ Q => ra δ fun ds => match decide (ds.length ≤ 1000) with
  | true => Q ds
  | false => False
theorem sz1000 {n : Nat} (h : n ≤ 1000) : n ≤ sizeLine := Nat.le_trans h (by decide)
theorem pd_tup {ra : DA} {k : Nat} (h : PAD X B es ra) : PD X B (.Tuple es k pos) (dTup ra) := pe_mono (pe_tup h) fun σ H P q => by
  obtain ⟨H0, G, δ, Q, j, st, hr, k⟩ := q
  refine ⟨H0, G, δ, _, j, st, hr, fun ds vs G2 H2 q2 g2 h2 => ?_⟩
  cases hz : decide (ds.length ≤ 1000) with
  | false => rw [hz] at q2; exact q2.elim
  | true =>
    rw [hz] at q2
    refine ⟨sz1000 (by rw [h2.len]; exact of_decide_eq_true hz), fun p hp => ?_⟩
    have g3 := Gr.new (o := .tup vs) g2.j hp
    exact k _ _ _ _ q2 (g2.trans g3) (.tup upd_same (h2.mono g3.ex))
theorem pf_lst {ra : DA} (h : PAD X B es ra) : PF X B (.List es pos) (fLst ra) := pe_mono (pe_lst h) fun σ H P q => by
  obtain ⟨H0, G, δ, Q, j, st, hr, k⟩ := q
  refine ⟨H0, G, δ, _, j, st, hr, fun ds vs G2 H2 q2 g2 h2 => ?_⟩
  cases hz : decide (ds.length ≤ 1000) with
  | false => rw [hz] at q2; exact q2.elim
  | true =>
    rw [hz] at q2
    refine ⟨sz1000 (by rw [h2.len]; exact of_decide_eq_true hz), fun p hp => ?_⟩
    have g3 := Gr.new0 (o := .lst vs) g2.j hp
    have hp0 : H p = none := by
      cases q : H p with
      | none => rfl
      | some o => exact absurd hp (g2.stay q)
    exact k _ _ _ _ _ q2 (g2.trans g3) hp0 (fresh_back g2.j.ex hp) upd_same h2
/-- what was free behind was free ahead -/
theorem Gr.free {K : PySem.W.Frag} {G H G2 H2 : Hp} (g : Gr K B G H G2 H2) {p : Addr} (hp : H2 p = none) : H p = none := by
  cases q : H p with
  | none => rfl
  | some o => exact absurd hp (g.stay q)
/-- what is free is no moving thing and younger than the anchor -/
theorem Gr.neB {K : PySem.W.Frag} {G H : Hp} (j : Jn K B G H) {p : Addr} (hp : H p = none) : B.nb p := by
  have st : B.st p := by
    refine ⟨fun e => ?_, fun t h e => ?_⟩
    · subst e
      obtain ⟨o, ho⟩ := j.at
      rw [hp] at ho
      cases ho
    · subst e
      obtain ⟨⟨ps, z, _⟩, _⟩ := j.xt.tb t h
      rw [hp] at z
      cases z
  refine ⟨st, fun u hu => ?_⟩
  cases q : u.2 p with
  | none => rfl
  | some o =>
    have z := j.xt.keep u hu p o st q
    rw [hp] at z
    cases z
/-- a new list as data -/
def dF (ra : DA) : DE := fun δ Q => ra δ fun ds => Q (.lst ds)
theorem pd_f {ra : DA} (h : PF X B e ra) : PD X B e (dF ra) := pe_mono h fun σ H P q => by
  obtain ⟨H0, G, δ, Q, j, st, hr, k⟩ := q
  refine ⟨H0, G, δ, _, j, st, hr, fun ds p vs G2 H2 q2 g2 hp gp h2 hd => ?_⟩
  exact k _ _ _ _ q2 (g2.frz hp gp (Gr.neB j hp) h2) (.lst upd_same (hd.mono (Ex.new gp)))
abbrev O2 := D → D → (D → Prop) → Prop
abbrev O1 := D → (D → Prop) → Prop
def rLift (K : PySem.W.Frag) (B : Bx) (r : O2) : R2 := fun x y H P => ∃ (G : Hp) (dx dy : D) (Q : D → Prop), Jn K B G H ∧ Dat K B G x dx ∧ Dat K B G y dy ∧ r dx dy Q ∧ ∀ d v G2 H2, Q d → Gr K B G H G2 H2 → Dat K B G2 v d → P v H2
def rLift1 (K : PySem.W.Frag) (B : Bx) (r : O1) : V → Hp → VK → Prop := fun x H P => ∃ (G : Hp) (dx : D) (Q : D → Prop), Jn K B G H ∧ Dat K B G x dx ∧ r dx Q ∧ ∀ d v G2 H2, Q d → Gr K B G H G2 H2 → Dat K B G2 v d → P v H2
def dOp (o : O2) (ra rb : DE) : DE := fun δ Q => ra δ fun x => rb δ fun y => o x y Q
def dUn (o : O1) (ra : DE) : DE := fun δ Q => ra δ fun x => o x Q
theorem lift2 {K : PySem.W.Frag} {o : O2} {σ : L2.St} {H : Hp} {P : VK} (q : liftE K B (dOp o ra rb) σ H P) : tOp (rLift K B o) (liftE K B ra) (liftE K B rb) σ H P := by
  obtain ⟨H0, G, δ, Q, j, st, hr, k⟩ := q
  refine ⟨H0, G, δ, _, j, st, hr, fun d v G2 H2 q2 g2 h2 => ?_⟩
  refine ⟨H0, G2, δ, _, g2.j, st.gr g2, q2, fun e u G3 H3 q3 g3 h3 => ?_⟩
  exact ⟨G3, d, e, Q, g3.j, h2.mono g3.ex, h3, q3, fun d' v' G4 H4 q4 g4 h4 => k d' v' G4 H4 q4 ((g2.trans g3).trans g4) h4⟩
theorem pd_bin {op : Operator} {o : O2} (h : OpR X (binaryOp op) (rLift X.K B o)) (ha : PD X B a ra) (hb : PD X B b rb) : PD X B (.BinOp a op b pos) (dOp o ra rb) := pe_mono (pe_op h ha hb) fun _ _ _ q => lift2 q
theorem pd_cmp {op : CmpOp} {o : O2} (h : OpR X (compareOp op) (rLift X.K B o)) (ha : PD X B a ra) (hb : PD X B b rb) (hm : behindInMarks op b = false) : PD X B (.Compare a [op] [b] pos) (dOp o ra rb) := pe_mono (pe_cmpR h ha hb hm) fun _ _ _ q => lift2 q
theorem pd_ix {o : O2} (h : IxR X (rLift X.K B o)) (ha : PD X B a ra) (hb : PD X B b rb) (hs : PlainIx b := by intro _ _; rfl) : PD X B (.Subscript a b pos) (dOp o ra rb) := pe_mono (pe_ix h ha hb hs) fun _ _ _ q => lift2 q
theorem pd_un {op : UnaryOp} {o : O1} (h : UnR X (unaryOp op) (rLift1 X.K B o)) (ha : PD X B a ra) : PD X B (.UnaryOp op a pos) (dUn o ra) := pe_mono (pe_un h ha) fun σ H P q => by
  obtain ⟨H0, G, δ, Q, j, st, hr, k⟩ := q
  refine ⟨H0, G, δ, _, j, st, hr, fun d v G2 H2 q2 g2 h2 => ?_⟩
  exact ⟨G2, d, Q, g2.j, h2, q2, fun d' v' G4 H4 q4 g4 h4 => k d' v' G4 H4 q4 (g2.trans g4) h4⟩
def tBl (r : DE) : DT := fun δ Q => r δ fun x => match x with
  | .bl b => Q b
  | _ => False
def tAn (r u : DT) : DT := fun δ Q => r δ fun b => if b = true then u δ Q else Q false
def tOrr (r u : DT) : DT := fun δ Q => r δ fun b => if b = true then Q true else u δ Q
def tNt (r : DT) : DT := fun δ Q => r δ fun b => Q (!b)
theorem ptd_val (h : PD X B e r) (he : ∀ whole, isTrue e X.env whole = (do let v ← whole; standAt e.pos; holding [v] (truthy v)) := by intro _; rfl) : PTD X B e (tBl r) := pt_mono (pt_val h he) fun σ H P q => by
  obtain ⟨H0, G, δ, Q, j, st, hr, k⟩ := q
  refine ⟨H0, G, δ, _, j, st, hr, fun d v G2 H2 q2 g2 h2 => ?_⟩
  cases h2 with
  | bl b => exact ⟨b, rfl, k b G2 H2 q2 g2⟩
  | _ => exact q2.elim
theorem ptd_cmp {op : CmpOp} {o : O2} (h : OpR X (compareOp op) (rLift X.K B o)) (ha : PD X B a ra) (hb : PD X B b rb) (hm : behindInMarks op b = false) : PTD X B (.Compare a [op] [b] pos) (tBl (dOp o ra rb)) := pt_mono (pt_cmpR h ha hb hm) fun σ H P q => by
  obtain ⟨H0, G, δ, Q, j, st, hr, k⟩ := q
  refine lift2 ⟨H0, G, δ, _, j, st, hr, fun d v G2 H2 q2 g2 h2 => ?_⟩
  cases h2 with
  | bl b => exact ⟨b, rfl, k b G2 H2 q2 g2⟩
  | _ => exact q2.elim
theorem ptd_not {t : DT} (h : PTD X B a t) : PTD X B (.UnaryOp .Not a pos) (tNt t) := pt_mono (pt_not h) fun σ H P q => by
  obtain ⟨H0, G, δ, Q, j, st, hr, k⟩ := q
  exact ⟨H0, G, δ, _, j, st, hr, fun b G2 H2 q2 g2 => k _ G2 H2 q2 g2⟩
theorem pwd_and1 {t : DT} (h : PTD X B a t) : PWD X B (.BoolOp .And [a] pos) t := pw_and1 h
theorem pwd_or1 {t : DT} (h : PTD X B a t) : PWD X B (.BoolOp .Or [a] pos) t := pw_or1 h
theorem lift_an {K : PySem.W.Frag} {t u : DT} {σ : L2.St} {H : Hp} {P : Bool → Hp → Prop} (q : liftT K B (tAn t u) σ H P) : L2.tAnd (liftT K B t) (liftT K B u) σ H P := by
  obtain ⟨H0, G, δ, Q, j, st, hr, k⟩ := q
  refine ⟨H0, G, δ, _, j, st, hr, fun c G2 H2 q2 g2 => ?_⟩
  cases c with
  | true => exact ⟨H0, G2, δ, Q, g2.j, st.gr g2, q2, fun c G3 H3 q3 g3 => k c G3 H3 q3 (g2.trans g3)⟩
  | false => exact k false G2 H2 q2 g2
theorem lift_or {K : PySem.W.Frag} {t u : DT} {σ : L2.St} {H : Hp} {P : Bool → Hp → Prop} (q : liftT K B (tOrr t u) σ H P) : L2.tOr (liftT K B t) (liftT K B u) σ H P := by
  obtain ⟨H0, G, δ, Q, j, st, hr, k⟩ := q
  refine ⟨H0, G, δ, _, j, st, hr, fun c G2 H2 q2 g2 => ?_⟩
  cases c with
  | false => exact ⟨H0, G2, δ, Q, g2.j, st.gr g2, q2, fun c G3 H3 q3 g3 => k c G3 H3 q3 (g2.trans g3)⟩
  | true => exact k true G2 H2 q2 g2
theorem pwd_and {t u : DT} {rest : List Expr} (h : PTD X B a t) (hu : PWD X B (.BoolOp .And (b :: rest) pos) u) : PWD X B (.BoolOp .And (a :: b :: rest) pos) (tAn t u) := pw_mono (pw_and h hu) fun _ _ _ q => lift_an q
theorem pwd_or {t u : DT} {rest : List Expr} (h : PTD X B a t) (hu : PWD X B (.BoolOp .Or (b :: rest) pos) u) : PWD X B (.BoolOp .Or (a :: b :: rest) pos) (tOrr t u) := pw_mono (pw_or h hu) fun _ _ _ q => lift_or q
def dAn (ra rb : DE) : DE := fun δ Q => ra δ fun x => match x with
  | .bl c => if c = true then rb δ Q else Q (.bl false)
  | _ => False
def dOr (ra rb : DE) : DE := fun δ Q => ra δ fun x => match x with
  | .bl c => if c = true then Q (.bl true) else rb δ Q
  | _ => False
def dNt (ra : DE) : DE := fun δ Q => ra δ fun x => match x with
  | .bl c => Q (.bl (!c))
  | _ => False
theorem pd_1 {op} (h : PD X B a ra) : PD X B (.BoolOp op [a] pos) ra := pe_one h
theorem pd_and {rest : List Expr} (ha : PD X B a ra) (hb : PD X B (.BoolOp .And (b :: rest) pos) rb) : PD X B (.BoolOp .And (a :: b :: rest) pos) (dAn ra rb) := pe_mono (pe_and ha hb) fun σ H P q => by
  obtain ⟨H0, G, δ, Q, j, st, hr, k⟩ := q
  refine ⟨H0, G, δ, _, j, st, hr, fun d v G2 H2 q2 g2 h2 => ?_⟩
  cases h2 with
  | bl c =>
    refine ⟨c, rfl, ?_⟩
    cases c with
    | true => exact ⟨H0, G2, δ, Q, g2.j, st.gr g2, q2, fun d v G3 H3 q3 g3 h3 => k d v G3 H3 q3 (g2.trans g3) h3⟩
    | false => exact k _ _ G2 H2 q2 g2 (.bl false)
  | _ => exact q2.elim
theorem pd_or {rest : List Expr} (ha : PD X B a ra) (hb : PD X B (.BoolOp .Or (b :: rest) pos) rb) : PD X B (.BoolOp .Or (a :: b :: rest) pos) (dOr ra rb) := pe_mono (pe_or ha hb) fun σ H P q => by
  obtain ⟨H0, G, δ, Q, j, st, hr, k⟩ := q
  refine ⟨H0, G, δ, _, j, st, hr, fun d v G2 H2 q2 g2 h2 => ?_⟩
  cases h2 with
  | bl c =>
    refine ⟨c, rfl, ?_⟩
    cases c with
    | false => exact ⟨H0, G2, δ, Q, g2.j, st.gr g2, q2, fun d v G3 H3 q3 g3 h3 => k d v G3 H3 q3 (g2.trans g3) h3⟩
    | true => exact k _ _ G2 H2 q2 g2 (.bl true)
  | _ => exact q2.elim
theorem pd_not (ha : PD X B a ra) : PD X B (.UnaryOp .Not a pos) (dNt ra) := pe_mono (pe_not ha) fun σ H P q => by
  obtain ⟨H0, G, δ, Q, j, st, hr, k⟩ := q
  refine ⟨H0, G, δ, _, j, st, hr, fun d v G2 H2 q2 g2 h2 => ?_⟩
  cases h2 with
  | bl c => exact ⟨c, rfl, k _ _ G2 H2 q2 g2 (.bl _)⟩
  | _ => exact q2.elim
def dIfE (t : DT) (ra rb : DE) : DE := fun δ Q => t δ fun b => if b = true then ra δ Q else rb δ Q
theorem pd_ifE {c : Expr} {t : DT} (hc : PTD X B c t) (ha : PD X B a ra) (hb : PD X B b rb) : PD X B (.IfExp c a b pos) (dIfE t ra rb) := pe_mono (pe_ifExp hc ha hb) fun σ H P q => by
  obtain ⟨H0, G, δ, Q, j, st, hr, k⟩ := q
  refine ⟨H0, G, δ, _, j, st, hr, fun c G2 H2 q2 g2 => ?_⟩
  cases c with
  | true => exact ⟨H0, G2, δ, Q, g2.j, st.gr g2, q2, fun d v G3 H3 q3 g3 h3 => k d v G3 H3 q3 (g2.trans g3) h3⟩
  | false => exact ⟨H0, G2, δ, Q, g2.j, st.gr g2, q2, fun d v G3 H3 q3 g3 h3 => k d v G3 H3 q3 (g2.trans g3) h3⟩
abbrev FD := List D → (D → Prop) → Prop
def cLift (K : PySem.W.Frag) (B : Bx) (S : FD) : List V → Hp → VK → Prop := fun vs H P => ∃ (G : Hp) (ds : List D) (Q : D → Prop), Jn K B G H ∧ Dats K B G vs ds ∧ S ds Q ∧ ∀ d v G2 H2, Q d → Gr K B G H G2 H2 → Dat K B G2 v d → P v H2
def spD (K : PySem.W.Frag) (B : Bx) (S : FD) : Sp := fun vs H P _ => cLift K B S vs H P
def dCall (S : FD) (ra : DA) : DE := fun δ Q => ra δ fun ds => S ds Q
theorem liftC {K : PySem.W.Frag} {S : FD} {ra : DA} {σ : L2.St} {H : Hp} {P : VK} (q : liftE K B (dCall S ra) σ H P) : liftA K B ra σ H fun vs H1 => cLift K B S vs H1 P := by
  obtain ⟨H0, G, δ, Q, j, st, hr, k⟩ := q
  refine ⟨H0, G, δ, _, j, st, hr, fun ds vs G2 H2 q2 g2 h2 => ?_⟩
  exact ⟨G2, ds, Q, g2.j, h2, q2, fun d v G3 H3 q3 g3 h3 => k d v G3 H3 q3 (g2.trans g3) h3⟩
theorem pd_call {CX : CXT} {k : Nat} {f : Addr} {fd : FuncData} {ps : List Str} {S : FD} {x : Str} {E : XK} {ra : DA} {fp : Pos} (F : FnOk X.prog X.w X.K X.mg X.base CX k f fd ps (spD X.K B S)) (hr : Room k X.A) (hg : Gl X x) (hm : X.mg x = some (.ref f)) (hk : PySem.W.keepIn X.K (.ref f) = true)
    (hb : Binds X.K fd ps []) (hx : Passes CX X E) (ha : PAD X B (e :: es) ra) (hd : (x == ("__debug__" : Str)) = false := by decide) (he : starEach (e :: es) X.env = (false, eval e X.env) :: starEach es X.env := by rfl) (hpl : (backTo pos (starEach es X.env)).any (·.1) = false := by rfl) : PD X B (.Call (.Name x fp) (e :: es) [] pos) (dCall S ra) :=
  pe_mono (pe_call F hr hg hm hk hb .nil hx ha hd he hpl) fun σ H P q => by
    have h := liftC q
    obtain ⟨H0, G, δ, Q, j, st, h1, k⟩ := h
    exact ⟨H0, G, δ, Q, j, st, h1, fun ds vs G2 H2 q2 g2 h2 => by
      show spD X.K B S (vs ++ []) H2 P E
      rw [List.append_nil]
      exact k ds vs G2 H2 q2 g2 h2⟩
theorem pd_callB {id : String} {S : FD} {x : Str} {ra : DA} {fp : Pos} (hc : CallR X (.builtin id) (cLift X.K B S)) (hg : Gl X x) (hm : X.mg x = none) (hv : bootBuiltins x = some (.builtin id)) (ha : PAD X B (e :: es) ra) (hn : x ≠ "__name__" := by decide) (hdb : (x == ("__debug__" : Str)) = false := by decide) (he : starEach (e :: es) X.env = (false, eval e X.env) :: starEach es X.env := by rfl) (hpl : (backTo pos (starEach es X.env)).any (·.1) = false := by rfl) :
    PD X B (.Call (.Name x fp) (e :: es) [] pos) (dCall S ra) := pe_mono (pe_callB hc hg hm hv ha hn hdb he hpl) fun _ _ _ q => liftC q
theorem pd_callTy {T : String} {S : FD} {x : Str} {ra : DA} {fp : Pos} (hc : CallR X (.type T) (cLift X.K B S)) (hg : Gl X x) (hm : X.mg x = none) (hv : bootBuiltins x = some (.type T)) (ha : PAD X B (e :: es) ra) (hn : x ≠ "__name__" := by decide) (hdb : (x == ("__debug__" : Str)) = false := by decide) (he : starEach (e :: es) X.env = (false, eval e X.env) :: starEach es X.env := by rfl) (hpl : (backTo pos (starEach es X.env)).any (·.1) = false := by rfl) :
    PD X B (.Call (.Name x fp) (e :: es) [] pos) (dCall S ra) := pe_mono (pe_callTy hc hg hm hv ha hn hdb he hpl) fun _ _ _ q => liftC q
end
section
variable {X : Cx} {B : Bx} {e : Expr} {st : Stmt} {rest : List Stmt} {r : DE} {t u : DTS} {pos : Pos}
def dNext : DTS := fun W δ => W.nx δ
def dSeq (t u : DTS) : DTS := fun W δ => t { W with nx := u W } δ
theorem psd_nil : PSsD X B [] dNext := pss_mono pss_nil fun E σ H q => by
  obtain ⟨G0, H0, G, δ, W, g, s, h, k⟩ := q
  exact k.nx σ δ G H h g (Ex.refl _) s
theorem psd_cons (h1 : PSD X B st t) (h2 : PSsD X B rest u) : PSsD X B (st :: rest) (dSeq t u) := pss_mono (pss_cons h1 h2) fun E σ H q => by
  obtain ⟨G0, H0, G, δ, W, g, s, h, k⟩ := q
  exact ⟨G0, H0, G, δ, _, g, s, h, ⟨fun σ' δ' G2 H2 q2 g2 e2 s2 => ⟨G0, H0, G2, δ', W, g2, s2, q2, k.up e2⟩, k.bk, k.ct, k.rt, k.ro⟩⟩
theorem psd_one (h1 : PSD X B st t) : PSsD X B [st] t := pss_mono (pss_one h1) fun _ _ _ q => q
/-- from an expression at a statement's place -/
theorem at_stmt {K : PySem.W.Frag} {G0 H0 G H : Hp} {σ : L2.St} {δ : DS} {P : VK} {Q : D → Prop} (g : Gr K B G0 H0 G H) (s : StOk K B H0 G H σ δ) (h : r δ Q)
    (k : ∀ d v G2 H2, Q d → Gr K B G0 H0 G2 H2 → Ex G G2 → StOk K B H0 G2 H2 σ δ → Dat K B G2 v d → P v H2) : liftE K B r σ H P :=
  ⟨H0, G, δ, Q, g.j, s, h, fun d v G2 H2 q2 g2 h2 => k d v G2 H2 q2 (g.trans g2) g2.ex (s.gr g2) h2⟩
def dRet (r : DE) : DTS := fun W δ => r δ W.rt
theorem psd_ret (h : PD X B e r) : PSD X B (.Return (some e) pos) (dRet r) := ps_mono (ps_ret h) fun E σ H q => by
  obtain ⟨G0, H0, G, δ, W, g, s, h, k⟩ := q
  exact at_stmt g s h fun d v G2 H2 q2 g2 e2 _ h2 => k.rt d v G2 H2 q2 g2 e2 h2
def dNever : DTS := fun _ _ => False
theorem psd_never : PSD X B st dNever := ps_mono ps_never fun E σ H q => by
  obtain ⟨G0, H0, G, δ, W, g, s, h, k⟩ := q
  exact h
def dIfS (c : DT) (t u : DTS) : DTS := fun W δ => c δ fun b => if b = true then t W δ else u W δ
theorem psd_if {c : Expr} {a b : List Stmt} {tc : DT} (hc : PTD X B c tc) (ha : PSsD X B a t) (hb : PSsD X B b u) : PSD X B (.If c a b pos) (dIfS tc t u) := ps_mono (ps_if hc ha hb) fun E σ H q => by
  obtain ⟨G0, H0, G, δ, W, g, s, h, k⟩ := q
  refine ⟨H0, G, δ, _, g.j, s, h, fun c G2 H2 q2 g2 => ?_⟩
  cases c with
  | true => exact ⟨G0, H0, G2, δ, W, g.trans g2, s.gr g2, q2, k.up g2.ex⟩
  | false => exact ⟨G0, H0, G2, δ, W, g.trans g2, s.gr g2, q2, k.up g2.ex⟩
def gN (i : Nat) : DG := fun d δ Q => Q (δ.set i (some (.sh d)))
theorem pgd_name {i : Nat} {x : Str} (hN : X.N.Nodup) (hi : X.N[i]? = some x) (hx : Loc X.env.scope x) (hf : X.fn x = true ∨ X.env.scope.names.lookup x = some .local := by first | exact .inl rfl | exact .inr rfl | assumption) : PGD X B (.Name x pos) [i] (gN i) :=
  pg_mono (pg_name hN hi hx hf) fun v σ H R q => by
    obtain ⟨H0, G, δ, d, Q, j, s, hd, h, k⟩ := q
    exact k _ _ h (s.set hd) ⟨List.length_set .., fun j hj => List.getElem?_set_ne (fun z => hj (by simp [z]))⟩
def gsNil : DGs := fun ds δ Q => match ds with
  | [] => Q δ
  | _ => False
def gsCons (g : DG) (gs : DGs) : DGs := fun ds δ Q => match ds with
  | d :: ds => g d δ fun δ' => gs ds δ' Q
  | [] => False
def dSet (i : Nat) (r : DE) : DTS := fun W δ => r δ fun d => W.nx (δ.set i (some (.sh d)))
theorem psd_set {i : Nat} {x : Str} {pos' : Pos} (hN : X.N.Nodup) (hi : X.N[i]? = some x) (hx : Loc X.env.scope x) (he : PD X B e r) (hs : swapsWith e (some (.Name x pos')) pos.line X.env = pure false := by rfl) (hf : X.fn x = true ∨ X.env.scope.names.lookup x = some .local := by first | exact .inl rfl | exact .inr rfl | assumption) :
    PSD X B (.Assign [.Name x pos'] e pos) (dSet i r) := ps_mono (ps_set hN hi hx he hs hf) fun E σ H q => by
  obtain ⟨G0, H0, G, δ, W, g, s, h, k⟩ := q
  exact at_stmt g s h fun d v G2 H2 q2 g2 e2 s2 h2 => k.nx _ _ G2 H2 q2 g2 e2 (s2.set h2)
end
end DL
namespace DL
open PySem PySem.Spec PyProof.Rows L2 Evl
section
variable {X : Cx} {B : Bx} {e : Expr} {es : List Expr} {st : Stmt} {rest : List Stmt} {r : DE} {t u : DTS} {pos : Pos}
theorem pgsd_nil : PGsD X B [] [] gsNil := pgs_mono pgs_nil fun v σ H R q => by
  obtain ⟨H0, G, δ, ds, Q, j, s, hd, h, k⟩ := q
  cases hd with
  | nil => exact ⟨rfl, k _ _ h s (Upd.refl _ _)⟩
  | cons _ _ => exact h.elim
theorem pgsd_cons {g : DG} {gs : DGs} {is js : List Nat} (h1 : PGD X B e is g) (h2 : PGsD X B es js gs) (hs : (assignEach (e :: es) X.env).map (·.2) = assign e X.env :: (assignEach es X.env).map (·.2) := by rfl) : PGsD X B (e :: es) (is ++ js) (gsCons g gs) := pgs_mono (pgs_cons h1 h2 hs) fun v σ H R q => by
  obtain ⟨H0, G, δ, ds, Q, j, s, hd, h, k⟩ := q
  cases hd with
  | nil => exact h.elim
  | cons h3 h4 =>
    refine ⟨_, _, rfl, H0, G, δ, _, _, j, s, h3, h, fun σ' δ' q2 s2 u2 => ?_⟩
    exact ⟨H0, G, δ', _, Q, j, s2, h4, q2, fun σ3 δ3 q3 s3 u3 => k σ3 δ3 q3 s3 (u2.trans u3)⟩
def gT (n : Nat) (gs : DGs) : DG := fun d δ Q => match d with
  | .tup ds => match decide (ds.length = n) with
    | true => gs ds δ Q
    | false => False
  | _ => False
theorem pgd_tup {k n : Nat} {gs : DGs} {is : List Nat} (hc : X.calm = true) (h : PGsD X B es is gs) (hn : (assignEach es X.env).length = n := by rfl) (hst : (assignEach es X.env).findIdx? (·.1) = none := by rfl) : PGD X B (.Tuple es k pos) is (gT n gs) := pg_mono (pg_tup hc h hn hst) fun v σ H R q => by
  obtain ⟨H0, G, δ, d, Q, j, s, hd, h, k⟩ := q
  cases hd with
  | tup h3 h4 =>
    rename_i a xs ds
    have h : (match decide (ds.length = n) with | true => gs ds δ Q | false => False) := h
    cases hz : decide (ds.length = n) with
    | false => rw [hz] at h; exact h.elim
    | true =>
      rw [hz] at h
      exact ⟨a, xs, rfl, tx j.ex h3, h4.len.trans (of_decide_eq_true hz), H0, G, δ, ds, Q, j, s, h4, h, k⟩
  | _ => exact h.elim
/-- a, b = x, y -/
def dPar (i j : Nat) (ra : DA) : DTS := fun W δ => ra δ fun ds => match ds with
  | [d, e] => W.nx ((δ.set i (some (.sh d))).set j (some (.sh e)))
  | _ => False
theorem psd_par {i j : Nat} {x y : Str} {a b : Expr} {ra : DA} {px py pt : Pos} {kt k2 pt2} (hc : X.calm = true) (hN : X.N.Nodup) (hi : X.N[i]? = some x) (hj : X.N[j]? = some y) (hij : i ≠ j)
    (hx : X.env.scope.names.lookup x = some .local) (hy : X.env.scope.names.lookup y = some .local) (ha : PAD X B [a, b] ra)
    (hw : swappedStores [.Tuple [.Name x px, .Name y py] kt pt] (.Tuple [a, b] k2 pt2) X.env = pure (some [x, y]))
    (hs : swapsWithSole [.Tuple [.Name x px, .Name y py] kt pt] (.Tuple [a, b] k2 pt2) pos.line X.env = pure false := by rfl) :
    PSD X B (.Assign [.Tuple [.Name x px, .Name y py] kt pt] (.Tuple [a, b] k2 pt2) pos) (dPar i j ra) := ps_mono (ps_par hc hN hi hj hij hx hy ha hw hs) fun E σ H q => by
  obtain ⟨G0, H0, G, δ, W, g, s, h, k⟩ := q
  refine ⟨H0, G, δ, _, g.j, s, h, fun ds vs G2 H2 q2 g2 h2 => ?_⟩
  cases h2 with
  | nil => exact q2.elim
  | cons h3 h4 =>
    cases h4 with
    | nil => exact q2.elim
    | cons h5 h6 =>
      cases h6 with
      | nil => exact ⟨_, _, rfl, k.nx _ _ G2 H2 q2 (g.trans g2) g2.ex (((s.gr g2).set h3).set h5)⟩
      | cons _ _ => exact q2.elim
structure ItD (K : PySem.W.Frag) (B : Bx) (J : It) (G : Hp) (ds : List D) : Prop where
  go : ∀ i G1 H, Ex G G1 → Jn K B G1 H → i < ds.length → J.go i H
  yld : ∀ (i : Nat) G1 H x H' d, Ex G G1 → Jn K B G1 H → J.yld i H x H' → ds[i]? = some d → ∃ G2, Gr K B G1 H G2 H' ∧ Dat K B G2 x d
  stop : ∀ i G1 H, Ex G G1 → Jn K B G1 H → ds.length ≤ i → J.stop i H
def liftI (K : PySem.W.Frag) (B : Bx) (r : DA) : TI := fun σ H R => ∃ (H0 G : Hp) (δ : DS) (Q : List D → Prop), Jn K B G H ∧ StOk K B H0 G H σ δ ∧ r δ Q ∧ ∀ ds J G2 H2, Q ds → Gr K B G H G2 H2 → ItD K B J G2 ds → R J H2
abbrev PID (X : Cx) (B : Bx) (tg e : Expr) (r : DA) : Prop := PI X tg e (liftI X.K B r)
def chars (x : Str) : List D := x.cps.toList.map fun c => .str ⟨#[c]⟩
def iSeq (r : DE) : DA := fun δ Q => r δ fun d => match d with
  | .lst xs => Q xs
  | .tup xs => Q xs
  | .str x => Q (chars x)
  | _ => False
theorem itd_list {K : PySem.W.Frag} {G : Hp} {a : Addr} {xs : List V} {ds : List D} (h : G a = some (.lst xs)) (hd : Dats K B G xs ds) : ItD K B (Itl K a) G ds where
  go := fun i G1 H e j hi => ⟨xs, xs[i]'(by rw [hd.len]; exact hi), sq_of (j.ex _ _ (e _ _ h)), by simp⟩
  yld := fun i G1 H x H' d e j y hi => by
    obtain ⟨rfl, y⟩ := y
    have := y xs (sq_of (j.ex _ _ (e _ _ h)))
    obtain ⟨u, h1, h2⟩ := hd.get hi
    rw [this] at h1
    cases h1
    exact ⟨G1, Gr.refl j, h2.mono e⟩
  stop := fun i G1 H e j hi => ⟨xs, sq_of (j.ex _ _ (e _ _ h)), by rw [hd.len]; exact hi⟩
theorem itd_tup {K : PySem.W.Frag} {G : Hp} {a : Addr} {xs : List V} {ds : List D} (h : SqT K G a xs) (hd : Dats K B G xs ds) : ItD K B (Itt K a) G ds where
  go := fun i G1 H e j hi => ⟨xs, xs[i]'(by rw [hd.len]; exact hi), ex_t (e.trans j.ex) h, by simp⟩
  yld := fun i G1 H x H' d e j y hi => by
    obtain ⟨rfl, y⟩ := y
    have := y xs (ex_t (e.trans j.ex) h)
    obtain ⟨u, h1, h2⟩ := hd.get hi
    rw [this] at h1
    cases h1
    exact ⟨G1, Gr.refl j, h2.mono e⟩
  stop := fun i G1 H e j hi => ⟨xs, ex_t (e.trans j.ex) h, by rw [hd.len]; exact hi⟩
theorem itd_str {K : PySem.W.Frag} {G : Hp} {x : Str} : ItD K B (Its x) G (chars x) where
  go := fun i G1 H e j hi => by
    have : (chars x).length = x.cps.size := by simp [chars]
    show i < x.cps.size
    omega
  yld := fun i G1 H v H' d e j y hi => by
    obtain ⟨rfl, c, h1, h2⟩ := y
    subst h2
    have : d = .str ⟨#[c]⟩ := by
      unfold chars at hi
      rw [List.getElem?_map, Array.getElem?_toList, h1] at hi
      exact (Option.some.inj hi).symm
    subst this
    exact ⟨G1, Gr.refl j, .str _⟩
  stop := fun i G1 H e j hi => by
    have : (chars x).length = x.cps.size := by simp [chars]
    show x.cps.size ≤ i
    omega
theorem pid_seq {tg : Expr} (he : PD X B e r) : PID X B tg e (iSeq r) := by
  refine ⟨fun pins s σ H R I h => ?_⟩
  obtain ⟨H0, G, δ, Q, j, st, hr, k⟩ := h
  refine thn (he.run pins s σ H (fun x H1 => ∃ G2 d, (match d with | D.lst xs => Q xs | D.tup xs => Q xs | D.str x => Q (chars x) | _ => False) ∧ Gr X.K B G H G2 H1 ∧ Dat X.K B G2 x d) I ⟨H0, G, δ, _, j, st, hr, fun d v G2 H2 q2 g2 h2 => ⟨G2, d, q2, g2, h2⟩⟩) fun v s1 ⟨x, H1, I1, r1, q1⟩ => ?_
  obtain ⟨G2, d, q2, g2, h2⟩ := q1
  cases h2 with
  | @lst a xs ds h3 h4 =>
    cases r1
    obtain ⟨its, rv, p, hz⟩ := I1.list (sq_of (g2.j.ex _ _ h3))
    exact wpAny_pyIter_list p.isList (pi_one (tk := s1.toks) I1 _ (turn_list a _) ⟨_, Heap.get?_push_size _ rfl, rfl, rfl⟩ (k ds _ G2 H1 q2 g2 (itd_list h3 h4)))
  | @tup a xs ds h3 h4 =>
    cases r1
    obtain ⟨its, rv, p, hz⟩ := I1.tuple (tx g2.j.ex h3)
    exact wpAny_pyIter_tuple (show s1.heap.IsTuple a its.toArray from p) (pi_one (tk := s1.toks) I1 _ (turn_tuple a _) ⟨_, Heap.get?_push_size _ rfl, rfl, rfl⟩ (k ds _ G2 H1 q2 g2 (itd_tup (st_of h3) h4)))
  | str x =>
    obtain ⟨t, rfl⟩ := r1
    cases ha : x.cps.all (· < 128)
    · exact wpAny_pyIter_wide ha (pi_one (tk := s1.toks) I1 _ (turn_str _ x t "str_iterator" (.inr rfl)) ⟨_, Heap.get?_push_size _ rfl, rfl, rfl⟩ (k _ _ G2 H1 q2 g2 itd_str))
    · exact wpAny_pyIter_ascii ha (pi_one (tk := s1.toks) I1 _ (turn_str _ x t "str_ascii_iterator" (.inl rfl)) ⟨_, Heap.get?_push_size _ rfl, rfl, rfl⟩ (k _ _ G2 H1 q2 g2 itd_str))
  | _ => exact q2.elim
def ups (lo : Int) (n : Nat) : List D := (List.range n).map fun (i : Nat) => .int (lo + (i : Int))
theorem itd_range {K : PySem.W.Frag} {G : Hp} {lo : Int} {n : Nat} : ItD K B (Itr lo n) G (ups lo n) where
  go := fun i G1 H e j hi => by
    have : (ups lo n).length = n := by simp [ups]
    show i < n
    omega
  yld := fun i G1 H v H' d e j y hi => by
    obtain ⟨rfl, rfl⟩ := y
    have hl : (ups lo n).length = n := by simp [ups]
    have hi' : i < n := by
      have := (List.getElem?_eq_some_iff.mp hi).1
      omega
    unfold ups at hi
    rw [List.getElem?_map, List.getElem?_range hi'] at hi
    cases hi
    exact ⟨G1, Gr.refl j, .int _⟩
  stop := fun i G1 H e j hi => by
    have : (ups lo n).length = n := by simp [ups]
    show n ≤ i
    omega
def iR1 (ra : DA) : DA := fun δ Q => ra δ fun ds => match ds with
  | [.int n] => (-(2 ^ 62) ≤ n ∧ n < 2 ^ 62) ∧ Q (ups 0 n.toNat)
  | _ => False
theorem pid_r1 {tg a : Expr} {ra : DA} {p : Pos} (hg : Gl X "range") (hm : X.mg "range" = none) (ha : PAD X B [a] ra) (hs : starEach [a] X.env = [(false, eval a X.env)] := by rfl) : PID X B tg (.Call (.Name "range" p) [a] [] pos) (iR1 ra) :=
  ⟨fun pins s σ H R I h => (pi_range1 (tg := tg) hg hm ha hs).run pins s σ H R I (by
    obtain ⟨H0, G, δ, Q, j, st, hr, k⟩ := h
    refine ⟨H0, G, δ, _, j, st, hr, fun ds vs G2 H2 q2 g2 h2 => ?_⟩
    cases h2 with
    | nil => exact q2.elim
    | cons h3 h4 =>
      cases h3 with
      | int n =>
        cases h4 with
        | nil => exact ⟨n, rfl, q2.1.1, q2.1.2, k _ _ G2 H2 q2.2 g2 itd_range⟩
        | cons _ _ => exact q2.elim
      | _ => exact q2.elim)⟩
def forD (g : DG) (tb : DTS) (W : DEnds) : List D → DS → Prop
  | [], δ => W.nx δ
  | d :: ds, δ => g d δ fun δ' => tb { W with nx := forD g tb W ds, ct := forD g tb W ds, bk := W.nx } δ'
def dFor (ri : DA) (g : DG) (tb : DTS) : DTS := fun W δ => ri δ fun ds => forD g tb W ds δ
theorem psd_for {tg iter : Expr} {body : List Stmt} {ri : DA} {g : DG} {is : List Nat} {tb : DTS} (hp : PassesOwn (model X.prog X.w) X.A X.env X.xe) (hc : X.calm = true) (hi : PID X B tg iter ri) (hg : PGD X B tg is g) (hb : PSsD X B body tb)
    (hs : ∀ x, foldedSetIterable iter X.env x = pure x := by intro _; rfl) : PSD X B (.For tg iter body [] pos) (dFor ri g tb) := ps_mono (ps_for hp hc hi hg hb hs) fun E σ H q => by
  obtain ⟨G0, H0, G, δ, W, g0, s, h, k⟩ := q
  refine ⟨H0, G, δ, _, g0.j, s, h, fun ds J G2 H2 q2 g2 it => ?_⟩
  refine ⟨fun i m σ H => i + m = ds.length ∧ ∃ G' δ', Ex G2 G' ∧ Gr X.K B G0 H0 G' H ∧ StOk X.K B H0 G' H σ δ' ∧ forD g tb W (ds.drop i) δ', ⟨ds.length, by omega, G2, δ, Ex.refl _, g0.trans g2, s.gr g2, q2⟩, fun i m σ H hw => ?_⟩
  obtain ⟨em, G', δ', ex, gr, st, hf⟩ := hw
  by_cases hlt : i < ds.length
  · refine .inr ⟨it.go i G' H ex gr.j hlt, fun σ1 H1 => ∃ G3 δ3, Ex G2 G3 ∧ Gr X.K B G0 H0 G3 H1 ∧ StOk X.K B H0 G3 H1 σ1 δ3 ∧ forD g tb W (ds.drop (i + 1)) δ3, fun σ1 H1 hn => ⟨m - 1, by omega, by omega, hn⟩, fun x H1 hy => ?_⟩
    have hd : ds[i]? = some ds[i] := List.getElem?_eq_getElem hlt
    obtain ⟨G3, g3, hx⟩ := it.yld i G' H x H1 _ ex gr.j hy hd
    rw [List.drop_eq_getElem_cons hlt] at hf
    refine ⟨H0, G3, δ', ds[i], _, g3.j, st.gr g3, hx, hf, fun σ2 δ2 q3 s3 _ => ?_⟩
    refine ⟨G0, H0, G3, δ2, _, gr.trans g3, s3, q3, ⟨?_, ?_, ?_, ?_, ?_⟩⟩
    · exact fun σ4 δ4 G4 H4 q4 g4 e4 s4 => ⟨G4, δ4, (ex.trans g3.ex).trans e4, g4, s4, q4⟩
    · exact fun σ4 δ4 G4 H4 q4 g4 e4 s4 => k.nx _ _ _ _ q4 g4 (g2.ex.trans ((ex.trans g3.ex).trans e4)) s4
    · exact fun σ4 δ4 G4 H4 q4 g4 e4 s4 => ⟨G4, δ4, (ex.trans g3.ex).trans e4, g4, s4, q4⟩
    · exact fun d v G4 H4 q4 g4 e4 h4 => k.rt _ _ _ _ q4 g4 (g2.ex.trans ((ex.trans g3.ex).trans e4)) h4
    · exact fun o v f G4 H4 q4 g4 e4 h4 => k.ro _ _ _ _ _ q4 g4 (g2.ex.trans ((ex.trans g3.ex).trans e4)) h4
  · have e : i = ds.length := by omega
    subst e
    rw [List.drop_length] at hf
    exact .inl ⟨it.stop _ G' H ex gr.j (Nat.le_refl _), k.nx _ _ _ _ hf gr (g2.ex.trans ex) st⟩
end
end DL
namespace DL
open PySem PySem.Spec PyProof.Rows L2 Evl
def wipeD (δ : DS) : List Nat → DS
  | [] => δ
  | v :: vs => (wipeD δ vs).set v none
theorem StOk.wipe {K : PySem.W.Frag} {B : Bx} {H0 G H : Hp} {σ : L2.St} {δ : DS} (x : StOk K B H0 G H σ δ) : ∀ vs : List Nat, StOk K B H0 G H (L2.wipe σ vs) (wipeD δ vs)
  | [] => x
  | _ :: vs => (StOk.wipe x vs).forget
def lcD (g : DG) (tt : DT) (te : DE) (δ : DS) (Q : List D → Prop) : List D → List D → Prop
  | [], acc => Q acc
  | d :: ds, acc => g d δ fun δ' => tt δ' fun b => if b = true then te δ' fun y => lcD g tt te δ Q ds (acc ++ [y]) else lcD g tt te δ Q ds acc
def fLc (ri : DA) (g : DG) (tt : DT) (te : DE) (vs : List Nat) : DA := fun δ Q => ri δ fun ds => ds.length ≤ sizeLine ∧ lcD g tt te (wipeD δ vs) Q ds []
section
variable {X : Cx} {B : Bx}
abbrev PTsD (X : Cx) (B : Bx) (es : List Expr) (r : DT) : Prop := PTs X es (liftT X.K B r)
def dYes : DT := fun _ Q => Q true
theorem ptsd_nil : PTsD X B [] dYes := ⟨fun pins s σ H Q I h => pts_nil.run pins s σ H Q I (by
  obtain ⟨H0, G, δ, Q', j, st, hr, k⟩ := h
  exact k true G H hr (Gr.refl j))⟩
theorem ptsd_one {c : Expr} {t : DT} (h : PTD X B c t) : PTsD X B [c] t := pts_one h
theorem lift_lc {K : PySem.W.Frag} {ri : DA} {g : DG} {is : List Nat} {tt : DT} {te : DE} {vs : List Nat} {σ : L2.St} {H : Hp} {P : VK} (hv : ∀ i ∈ is, i ∈ vs) (q : liftF K B (fLc ri g tt te vs) σ H P) :
    tLc (liftI K B ri) (liftG K B is g) (liftT K B tt) (liftE K B te) vs σ H P := by
  obtain ⟨H0, G, δ, Q, j, st, hr, k⟩ := q
  refine ⟨H0, G, δ, _, j, st, hr, fun ds J G2 H2 q2 g2 it p hp => ?_⟩
  obtain ⟨hz, q2⟩ := q2
  have nb : B.nb p := Gr.neB g2.j hp
  have gp : G2 p = none := fresh_back g2.j.ex hp
  have st2 := (st.gr g2)
  refine ⟨fun i m H' => i + m = ds.length ∧ ∃ G' acc accD, Gr K B G2 H2 G' H' ∧ G' p = none ∧ H' p = some (.lst acc) ∧ Dats K B G' acc accD ∧ acc.length ≤ i ∧ lcD g tt te (wipeD δ vs) Q (ds.drop i) accD,
    ⟨ds.length, by omega, G2, [], [], Gr.new0 g2.j hp, gp, upd_same, .nil, Nat.le_refl _, q2⟩, fun i m H' hw => ?_⟩
  obtain ⟨em, G', acc, accD, gr, gp', hp', ha, hl, hf⟩ := hw
  by_cases hlt : i < ds.length
  · refine .inr ⟨it.go i G' H' gr.ex gr.j hlt, fun H1 => ∃ G1 acc accD, Gr K B G2 H2 G1 H1 ∧ G1 p = none ∧ H1 p = some (.lst acc) ∧ Dats K B G1 acc accD ∧ acc.length ≤ i + 1 ∧ lcD g tt te (wipeD δ vs) Q (ds.drop (i + 1)) accD, fun H1 hn => ⟨m - 1, by omega, by omega, hn⟩, fun x H1 hy => ?_⟩
    have hd : ds[i]? = some ds[i] := List.getElem?_eq_getElem hlt
    obtain ⟨G3, g3, hx⟩ := it.yld i G' H' x H1 _ gr.ex gr.j hy hd
    rw [List.drop_eq_getElem_cons hlt] at hf
    have hpn : Mu H' p := ⟨_, hp', nl rfl⟩
    refine ⟨H0, G3, wipeD δ vs, ds[i], _, g3.j, (st2.gr (gr.trans g3)).wipe vs, hx, hf, fun σ2 δ2 q3 s3 u3 => ?_⟩
    refine ⟨by rw [u3.wipe hv, wipe_wipe], H0, G3, δ2, _, g3.j, s3, q3, fun b G4 H4 q4 g4 => ?_⟩
    have g34 := g3.trans g4
    cases b with
    | false =>
      exact ⟨G4, acc, accD, gr.trans g34, by rw [g34.old p hpn]; exact gp', g34.keep p _ nb hp', ha.mono g34.ex, Nat.le_succ_of_le hl, q4⟩
    | true =>
      refine ⟨H0, G4, δ2, _, g4.j, s3.gr g4, q4, fun y u G5 H5 q5 g5 h5 => ?_⟩
      have g35 := g34.trans g5
      have gp5 : G5 p = none := by rw [g35.old p hpn]; exact gp'
      refine ⟨acc, g35.keep p _ nb hp', by omega, G5, _, _, (gr.trans g35).own hp gp5 nb, gp5, upd_same, (ha.mono g35.ex).append (.cons h5 .nil), ?_, q5⟩
      rw [List.length_append]
      show acc.length + 1 ≤ i + 1
      omega
  · have e : i = ds.length := by omega
    subst e
    rw [List.drop_length] at hf
    exact .inl ⟨it.stop _ G' H' gr.ex gr.j (Nat.le_refl _), k _ p acc G' H' hf (g2.trans gr) (g2.free hp) gp' hp' ha⟩
theorem pf_lc {elt tg iter : Expr} {ifs : List Expr} {scope : Scope} {own : List (Str × Nat)} {pos : Pos} {ri : DA} {g : DG} {is : List Nat} {tt : DT} {te : DE} (hc : X.calm = true) (hN : X.N.Nodup) (hi : PID X B tg iter ri) (ok : BlkOk X.N X.env.scope scope own) (hv : ∀ i ∈ is, i ∈ own.map (·.2))
    (hg : ∀ (s : Shared) (H : Hp) (C : Addr) (cl : List (Str × Addr)) (fp : List Addr), PGD (X.blk s H scope (compEnvC scope cl C X.env) fp) B tg is g) (ht : ∀ (s : Shared) (H : Hp) (C : Addr) (cl : List (Str × Addr)) (fp : List Addr), PTsD (X.blk s H scope (compEnvC scope cl C X.env) fp) B ifs tt)
    (he : ∀ (s : Shared) (H : Hp) (C : Addr) (cl : List (Str × Addr)) (fp : List Addr), PD (X.blk s H scope (compEnvC scope cl C X.env) fp) B elt te) (hs : ∀ x, foldedSetIterable iter X.env x = pure x := by intro _; rfl) :
    PF X B (.ListComp elt [⟨tg, iter, ifs, 0⟩] scope pos) (fLc ri g tt te (own.map (·.2))) := pe_mono (pe_lc hc hN hi ok hg ht he hs) fun _ _ _ q => lift_lc hv q
/-- y = [..] -/
theorem psd_setLc {i : Nat} {y : Str} {py : Pos} {elt tg iter : Expr} {ifs : List Expr} {scope : Scope} {own : List (Str × Nat)} {pos spos : Pos} {ri : DA} {g : DG} {is : List Nat} {tt : DT} {te : DE} (hc : X.calm = true) (hN : X.N.Nodup) (hy : X.N[i]? = some y) (hyl : X.env.scope.names.lookup y = some .local)
    (hsw : swapsWith (.ListComp elt [⟨tg, iter, ifs, 0⟩] scope pos) (some (.Name y py)) spos.line X.env = pure true) (hi : PID X B tg iter ri) (ok : BlkOk X.N X.env.scope scope own) (hv : ∀ i ∈ is, i ∈ own.map (·.2))
    (hg : ∀ (s : Shared) (H : Hp) (C : Addr) (cl : List (Str × Addr)) (fp : List Addr), PGD (X.blk s H scope (compEnvC scope cl C X.env) fp) B tg is g) (ht : ∀ (s : Shared) (H : Hp) (C : Addr) (cl : List (Str × Addr)) (fp : List Addr), PTsD (X.blk s H scope (compEnvC scope cl C X.env) fp) B ifs tt)
    (he : ∀ (s : Shared) (H : Hp) (C : Addr) (cl : List (Str × Addr)) (fp : List Addr), PD (X.blk s H scope (compEnvC scope cl C X.env) fp) B elt te) (hs : ∀ x, foldedSetIterable iter X.env x = pure x := by intro _; rfl) :
    PSD X B (.Assign [.Name y py] (.ListComp elt [⟨tg, iter, ifs, 0⟩] scope pos) spos) (dSet i (dF (fLc ri g tt te (own.map (·.2))))) := ps_mono (ps_setLc hc hN hy hyl hsw hi ok hg ht he hs) fun E σ H q => by
  obtain ⟨G0, H0, G, δ, W, g0, s, h, k⟩ := q
  refine lift_lc hv ⟨H0, G, δ, _, g0.j, s, h, fun ds p vs G2 H2 q2 g2 hp gp h2 hd => ?_⟩
  have g3 := g2.frz hp gp (Gr.neB g0.j hp) h2
  exact k.nx _ _ _ _ q2 (g0.trans g3) g3.ex ((s.gr g3).set (.lst upd_same (hd.mono (Ex.new gp))))
/-- what was one's own becomes known -/
theorem Gr.frzs {K : PySem.W.Frag} {G H G2 H2 : Hp} {f : List Addr} (x : Gr K B G H G2 H2) (hf : ∀ p ∈ f, H p = none ∧ B.nb p ∧ G2 p = none) : Gr K B G H (frzG G2 H2 f) H2 := by
  have ex := frz_ex (G := G2) (H := H2) (f := f) fun p hp => (hf p hp).2.2
  have nn : ∀ a, ¬ B.nb a → a ∉ f := fun a n z => n (hf a z).2.1
  refine ⟨x.ex.trans ex, x.kp, ⟨fun a u h => ?_, ?_, ?_, x.j.next ex (fun _ _ _ h => h) (fun a n _ => by unfold frzG; rw [if_neg (nn a n)]) (fun t h _ => ⟨rfl, fun g => by unfold frzG; rw [if_neg fun z => (hf _ z).2.1.tab t h rfl]; exact g⟩) (fun _ _ h => ⟨_, h⟩)⟩, fun a h => ?_⟩
  · unfold frzG at h
    split at h
    · exact h
    · exact x.j.ex a u h
  · unfold frzG
    rw [if_neg fun z => (hf _ z).2.1.1.1 rfl]
    exact x.j.no
  · obtain ⟨a, b, c, ns, h1, h2, h3⟩ := x.j.bag
    exact ⟨a, b, c, ns, h1, ex_l ex h2, h3⟩
  · unfold frzG
    rw [if_neg fun z => h.ne (hf _ z).1]
    exact x.old a h
/-- what stands in slot i is one's own no more: it's data from here on -/
def dFrz (i : Nat) (t : DTS) : DTS := fun W δ => match δ[i]? with
  | some (some (.ow _ o)) => t W (δ.set i (some (.sh o.toD)))
  | _ => False
theorem set_same {σ : L2.St} {i : Nat} {v : V} (h : σ[i]? = some (some v)) : σ.set i (some v) = σ := by
  apply List.ext_getElem?
  intro j
  by_cases hj : i = j
  · subst hj
    rw [List.getElem?_set_self (List.getElem?_eq_some_iff.mp h).1, h]
  · rw [List.getElem?_set_ne hj]
/-- the dicts at these places are locked -/
theorem lock_all {pins : List (Addr × Obj)} {σ : L2.St} {s : Shared} : ∀ (f : List Addr) {H : Hp}, Inv X pins σ H s → f.Nodup → ∃ L, Inv X pins σ L s ∧ Lkd H L f
  | [], H, I, _ => ⟨H, I, fun _ _ => rfl, fun _ _ h => h, (fun _ _ z => nomatch z), (fun _ _ z => nomatch z), fun _ _ h => h⟩
  | p :: f, H, I, nd => by
    have hp : p ∉ f := (List.nodup_cons.mp nd).1
    obtain ⟨L, I1, l⟩ := lock_all f I (List.nodup_cons.mp nd).2
    have hpL : L p = H p := l.out p hp
    by_cases h1 : ∃ u, H p = some u ∧ Mut (some u) ∧ ((∃ vs, u = .dK vs) ∨ ∃ vs, u = .dT vs)
    · obtain ⟨u, hu, mu, hk⟩ := h1
      obtain ⟨od, I2⟩ := I1.lock (hpL.trans hu) mu
      refine ⟨_, I2, fun q hq => ?_, fun q vs h => ?_, fun q vs hq h => ?_, fun q vs hq h => ?_, fun q ps h => ?_⟩
      · rw [upd_ne fun e => hq (by rw [e]; exact List.mem_cons_self)]
        exact l.out q fun z => hq (List.mem_cons_of_mem _ z)
      · have ne : q ≠ p := fun e => by
          rw [e, hu] at h
          cases h
          rcases hk with ⟨_, z⟩ | ⟨_, z⟩ <;> cases z
        rw [upd_ne ne]
        exact l.lst q vs h
      · by_cases e : q = p
        · subst e
          rw [hu] at h
          cases h
          exact ⟨od, upd_same⟩
        · rw [upd_ne e]
          exact l.dK q vs ((List.mem_cons.mp hq).resolve_left e) h
      · by_cases e : q = p
        · subst e
          rw [hu] at h
          cases h
          exact ⟨od, upd_same⟩
        · rw [upd_ne e]
          exact l.dT q vs ((List.mem_cons.mp hq).resolve_left e) h
      · by_cases e : q = p
        · subst e
          rw [upd_same] at h
          cases h
        · rw [upd_ne e] at h
          exact l.tb q ps h
    · refine ⟨L, I1, fun q hq => l.out q fun z => hq (List.mem_cons_of_mem _ z), l.lst, fun q vs hq h => ?_, fun q vs hq h => ?_, l.tb⟩
      · by_cases e : q = p
        · subst e
          exact absurd ⟨_, h, trivial, .inl ⟨_, rfl⟩⟩ h1
        · exact l.dK q vs ((List.mem_cons.mp hq).resolve_left e) h
      · by_cases e : q = p
        · subst e
          exact absurd ⟨_, h, trivial, .inr ⟨_, rfl⟩⟩ h1
        · exact l.dT q vs ((List.mem_cons.mp hq).resolve_left e) h
/-- own places are locked: what is known stays known -/
theorem Gr.lock {K : PySem.W.Frag} {G H G2 H2 L : Hp} {f : List Addr} (x : Gr K B G H G2 H2) (l : Lkd H2 L f) (hf : ∀ p ∈ f, H p = none ∧ B.nb p ∧ G2 p = none) : Gr K B G H G2 L := by
  refine ⟨x.ex, fun a o n h => ?_, ⟨fun a u h => ?_, x.j.no, ?_, x.j.next (Ex.refl _) (fun a o n h => (l.out a fun z => n (hf a z).2.1).trans h) (fun _ _ _ => rfl) (fun t h _ => ⟨l.out _ fun z => (hf _ z).2.1.tab t h rfl, fun g => g⟩) (fun a ps h => ⟨ps, l.tb a ps h⟩)⟩, x.old⟩
  · rw [l.out a fun z => by rw [(hf a z).1] at h; cases h]
    exact x.kp a o n h
  · rw [l.out a fun z => by rw [(hf a z).2.2] at h; cases h]
    exact x.j.ex a u h
  · obtain ⟨a, b, c, ns, h1, h2, h3⟩ := x.j.bag
    exact ⟨a, b, c, ns, by rw [l.out _ fun z => (hf _ z).2.1.1.1 rfl]; exact h1, h2, h3⟩
theorem frz_run {i : Nat} {t : DTS} {E : Ends} {σ : L2.St} {H : Hp} {pins : List (Addr × Obj)} {s : Shared} (I : Inv X pins σ H s) (q : liftS X.K B (dFrz i t) E σ H) : ∃ L, Inv X pins σ L s ∧ liftS X.K B t E σ L := by
  obtain ⟨G0, H0, G, δ, W, g0, st, h, k⟩ := q
  unfold dFrz at h
  cases h1 : δ[i]? with
  | none => rw [h1] at h; exact h.elim
  | some o =>
    cases o with
    | none => rw [h1] at h; exact h.elim
    | some x =>
      cases x with
      | sh d => rw [h1] at h; exact h.elim
      | nw _ _ _ => rw [h1] at h; exact h.elim
      | ow v o =>
        rw [h1] at h
        obtain ⟨F, y⟩ := st.ex
        obtain ⟨e1, e2, e3, e4⟩ := y.ow h1
        obtain ⟨L, I2, l⟩ := lock_all (F i) I e3
        have hG : ∀ p ∈ F i, G p = none := fun p hp => (e2.node p hp).1
        have ex := frz_ex (G := G) (H := L) hG
        have g1 := g0.lock l fun p hp => ⟨(e4 p hp).1, (e4 p hp).2, hG p hp⟩
        refine ⟨L, I2, G0, H0, frzG G L (F i), δ.set i (some (.sh o.toD)), W, g1.frzs fun p hp => ⟨(e4 p hp).1, (e4 p hp).2, hG p hp⟩, ?_, h, k.up ex⟩
        have s3 := y.put (i := i) (List.getElem?_eq_some_iff.mp e1).1 ex (H2 := L) (fun p _ _ hp => ⟨l.out p hp, by unfold frzG; rw [if_neg hp]⟩) (.sh (e2.dat hG l fun p hp => hp)) fun p hp => nomatch hp
        rw [set_same e1] at s3
        exact ⟨_, s3⟩
theorem psds_frz {st : List Stmt} {t : DTS} (i : Nat) (h : PSsD X B st t) : PSsD X B st (dFrz i t) := ⟨fun pins s σ H E I hw => let ⟨L, I2, q⟩ := frz_run I hw; h.run pins s σ L E I2 q⟩
end
def startD (n : Nat) (ds : List D) : DS := ds.map (fun d => some (.sh d)) ++ List.replicate (n - ds.length) none
theorem start_ok {K : PySem.W.Frag} {B : Bx} {H0 G H : Hp} {N : List Str} {vs : List V} {ds : List D} (h : Dats K B G vs ds) : StOk K B H0 G H (L2.start N vs) (startD N.length ds) := by
  refine ⟨fun _ => [], ?_, fun i ov od e1 e2 => ?_, fun _ _ _ _ _ p hp => nomatch hp⟩
  · unfold L2.start startD
    rw [List.length_append, List.length_append, List.length_map, List.length_map, List.length_replicate, List.length_replicate, h.len]
  · unfold startD at e2
    unfold L2.start at e1
    by_cases hi : i < ds.length
    · rw [List.getElem?_append_left (by rw [List.length_map]; exact hi), List.getElem?_map] at e2
      rw [List.getElem?_append_left (by rw [List.length_map, h.len]; exact hi), List.getElem?_map] at e1
      cases hd : ds[i]? with
      | none => rw [hd] at e2; cases e2
      | some d' =>
        rw [hd] at e2
        cases e2
        obtain ⟨v, h1, h2⟩ := h.get hd
        rw [h1] at e1
        cases e1
        exact .sh h2
    · rw [List.getElem?_append_right (by rw [List.length_map]; omega), List.getElem?_replicate] at e2
      split at e2
      · cases e2
        exact .no
      · cases e2
section
variable {P : Program} {w : World} {K : PySem.W.Frag} {mg : Str → Option Value} {base : Heap}
theorem fn_d {x qual : Str} {st : Stmt} {f : Addr} {fd : FuncData} {N ps : List Str} {k : Nat} {B : Bx} {S : FD} {t : DTS} (F : Fun K x qual st f fd) (Sc : FnScope N ps (defScope st)) (len : ∀ ds Q, S ds Q → ds.length = ps.length)
    (hbody : ∀ (cdv : Value) (A : Around) (outer : List Env) (s : Shared) (H : Hp) (E : XK), Room k (A.deeper (envOfC qual (defScope st) s.heap.objs.size f cdv)) → PSsD (cxOf CX0 P w K mg base N qual (defScope st) f cdv A outer s H E).nox B (defBody st) t)
    (vc : ∀ ds Q, S ds Q → t { nx := fun _ => Q .non, rt := Q } (startD N.length ds)) : FnOk P w K mg base CX0 (k + 1) f fd ps (spD K B S) := by
  refine F.ok Sc (fun vs H Q E h => ?_) (fun cdv A outer s H vs Q E hr h => ⟨_, hbody cdv A outer s H E hr, ?_⟩)
  · obtain ⟨G, ds, R, j, hd, hs, _⟩ := h
    rw [hd.len]
    exact len ds R hs
  · obtain ⟨G, ds, R, j, hd, hs, kk⟩ := h
    refine ⟨G, H, G, startD N.length ds, _, Gr.refl j, start_ok hd, vc ds R hs, ⟨?_, ?_, ?_, ?_, ?_⟩⟩
    · exact fun σ δ G2 H2 q g _ s2 => kk .non .non G2 H2 q g .non
    · exact fun σ δ G2 H2 q g _ s2 => q.elim
    · exact fun σ δ G2 H2 q g _ s2 => q.elim
    · exact fun d v G2 H2 q g _ hd => kk d v G2 H2 q g hd
    · exact fun o v f G2 H2 q => q.elim
end
end DL
namespace DL
open PySem PySem.Spec PyProof.Rows L2 Evl
mutual
def D.py : D → PyData
  | .non => .none
  | .bl b => .bool b
  | .int i => .int i
  | .str x => .str x
  | .lst xs => .list (pyL xs)
  | .tup xs => .tuple (pyL xs)
  | .dic _ => .none
  | .obj _ _ => .none
  | .bag => .none
  | .ktup _ => .none
def pyL : List D → List PyData
  | [] => []
  | x :: xs => D.py x :: pyL xs
end
mutual
def D.fine : D → Bool
  | .non => true
  | .bl _ => true
  | .int i => decide (i.natAbs.log2 < 1920)
  | .str x => PyData.strOk x
  | .lst xs => fineL xs
  | .tup xs => fineL xs
  | .dic _ => false
  | .obj _ _ => false
  | .bag => false
  | .ktup _ => false
def fineL : List D → Bool
  | [] => true
  | x :: xs => D.fine x && fineL xs
end
mutual
def D.dep : D → Nat
  | .lst xs => depL xs + 1
  | .tup xs => depL xs + 1
  | _ => 0
def depL : List D → Nat
  | [] => 0
  | x :: xs => max (D.dep x) (depL xs)
end
mutual
def D.wt : D → Nat
  | .non => 4
  | .bl _ => 5
  | .int _ => 2000
  | .str x => 10 * x.length + 2
  | .lst xs => wtL xs + 4
  | .tup xs => wtL xs + 4
  | _ => 0
def wtL : List D → Nat
  | [] => 0
  | x :: xs => D.wt x + 2 + wtL xs
end
mutual
theorem py_lay : ∀ d : D, d.fine = true → d.py.canLay0 = true
  | .non, _ => rfl
  | .bl _, _ => rfl
  | .int _, _ => rfl
  | .str x, h => by simpa [D.py, PyData.canLay0, D.fine] using h
  | .lst xs, h => by
    rw [D.py, PyData.canLay0]
    exact pyL_lay xs (by simpa [D.fine] using h)
  | .tup xs, h => by
    rw [D.py, PyData.canLay0]
    exact pyL_lay xs (by simpa [D.fine] using h)
  | .dic _, h => by simp [D.fine] at h
  | .obj _ _, h => by simp [D.fine] at h
  | .bag, h => by simp [D.fine] at h
  | .ktup _, h => by simp [D.fine] at h
theorem pyL_lay : ∀ ds : List D, fineL ds = true → PyData.canLayAll0 (pyL ds) = true
  | [], _ => rfl
  | x :: xs, h => by
    have h' : x.fine = true ∧ fineL xs = true := by simpa [fineL] using h
    rw [pyL, PyData.canLayAll0, py_lay x h'.1, pyL_lay xs h'.2]
    rfl
end
mutual
theorem py_show : ∀ d : D, d.fine = true → d.py.showable = true
  | .non, _ => rfl
  | .bl _, _ => rfl
  | .int i, h => by simpa [D.py, PyData.showable, D.fine] using h
  | .str x, h => rfl
  | .lst xs, h => by
    rw [D.py, PyData.showable]
    exact pyL_show xs (by simpa [D.fine] using h)
  | .tup xs, h => by
    rw [D.py, PyData.showable]
    exact pyL_show xs (by simpa [D.fine] using h)
  | .dic _, h => by simp [D.fine] at h
  | .obj _ _, h => by simp [D.fine] at h
  | .bag, h => by simp [D.fine] at h
  | .ktup _, h => by simp [D.fine] at h
theorem pyL_show : ∀ ds : List D, fineL ds = true → PyData.showableAll (pyL ds) = true
  | [], _ => rfl
  | x :: xs, h => by
    have h' : x.fine = true ∧ fineL xs = true := by simpa [fineL] using h
    rw [pyL, PyData.showableAll, py_show x h'.1, pyL_show xs h'.2]
    rfl
end
mutual
theorem py_dep : ∀ d : D, d.fine = true → d.py.depth ≤ d.dep
  | .non, _ => by simp [D.py, PyData.depth]
  | .bl _, _ => by simp [D.py, PyData.depth]
  | .int _, _ => by simp [D.py, PyData.depth]
  | .str x, h => by simp [D.py, PyData.depth]
  | .lst xs, h => by
    have := pyL_dep xs (by simpa [D.fine] using h)
    rw [D.py, PyData.depth, D.dep]
    omega
  | .tup xs, h => by
    have := pyL_dep xs (by simpa [D.fine] using h)
    rw [D.py, PyData.depth, D.dep]
    omega
  | .dic _, h => by simp [D.fine] at h
  | .obj _ _, h => by simp [D.fine] at h
  | .bag, h => by simp [D.fine] at h
  | .ktup _, h => by simp [D.fine] at h
theorem pyL_dep : ∀ ds : List D, fineL ds = true → PyData.depthAll (pyL ds) ≤ depL ds
  | [], _ => by simp [pyL, PyData.depthAll]
  | x :: xs, h => by
    have h' : x.fine = true ∧ fineL xs = true := by simpa [fineL] using h
    have h1 := py_dep x h'.1
    have h2 := pyL_dep xs h'.2
    rw [pyL, PyData.depthAll, depL]
    omega
end
theorem textFrom_up : ∀ (ts : List Str) (k : Nat) (acc : Str), (textFrom k acc ts).length ≤ acc.length + (ts.map fun t => t.length + 2).sum
  | [], k, acc => by simp [textFrom]
  | t :: r, k, acc => by
    have ih := textFrom_up r (k + 1) (acc ++ (if k > 0 then ", " else "" : String) ++ t)
    rw [textFrom]
    have e : (acc ++ (if k > 0 then ", " else "" : String) ++ t).length ≤ acc.length + 2 + t.length := by
      rw [strLen_append, strLen_append]
      by_cases hk : k > 0
      · rw [if_pos hk]
        have e2 : ((", " : String) : Str).length = 2 := rfl
        omega
      · rw [if_neg hk]
        have e2 : (("" : String) : Str).length = 0 := rfl
        omega
    rw [List.map_cons, List.sum_cons]
    omega
theorem listText_up (ts : List Str) : (listText ts).length ≤ (ts.map fun t => t.length + 2).sum + 2 := by
  unfold listText
  rw [strLen_append]
  have h := textFrom_up ts 0 "["
  have e1 : (("[" : String) : Str).length = 1 := rfl
  have e2 : (("]" : String) : Str).length = 1 := rfl
  omega
theorem join_up : ∀ ts : List Str, (Str.join ", " ts).length ≤ (ts.map fun t => t.length + 2).sum
  | [] => by simp [Str.join]; rfl
  | [x] => by
    show x.length ≤ _
    simp
  | x :: y :: r => by
    have ih := join_up (y :: r)
    show (x ++ ", " ++ Str.join ", " (y :: r)).length ≤ _
    rw [strLen_append, strLen_append, List.map_cons, List.sum_cons]
    have e2 : ((", " : String) : Str).length = 2 := rfl
    omega
theorem tupleText_up (ts : List Str) : (tupleText ts).length ≤ (ts.map fun t => t.length + 2).sum + 3 := by
  unfold tupleText
  rw [strLen_append, strLen_append]
  have h := join_up ts
  have e1 : (("(" : String) : Str).length = 1 := rfl
  by_cases hk : (ts.length == 1) = true
  · rw [if_pos hk]
    have e2 : ((",)" : String) : Str).length = 2 := rfl
    omega
  · rw [if_neg hk]
    have e2 : ((")" : String) : Str).length = 1 := rfl
    omega
theorem strOk_lt {x : Str} (h : PyData.strOk x = true) : ∀ c ∈ x.cps.toList, c < 16 ^ 8 := fun c hc => by
  unfold PyData.strOk at h
  rw [← Array.all_toList, List.all_eq_true] at h
  have := of_decide_eq_true (h c hc)
  omega
theorem int_text_len {i : Int} (h : i.natAbs.log2 < 1920) : (Str.ofString (toString i)).length ≤ 2000 := by
  rw [PySem.ofString_length]
  have := int_text_length_le (by decide) h
  omega
mutual
theorem py_len : ∀ d : D, d.fine = true → d.py.shown.length ≤ d.wt
  | .non, _ => by decide +kernel
  | .bl b, _ => by cases b <;> decide +kernel
  | .int i, h => by
    rw [D.py, PyData.shown, D.wt]
    exact int_text_len (by simpa [D.fine] using h)
  | .str x, h => by
    rw [D.py, PyData.shown, D.wt]
    exact StrLaws.reprText_len x (strOk_lt (by simpa [D.fine] using h))
  | .lst xs, h => by
    have := pyL_len xs (by simpa [D.fine] using h)
    have h2 := listText_up (PyData.shownAll (pyL xs))
    rw [D.py, PyData.shown, D.wt]
    omega
  | .tup xs, h => by
    have := pyL_len xs (by simpa [D.fine] using h)
    have h2 := tupleText_up (PyData.shownAll (pyL xs))
    rw [D.py, PyData.shown, D.wt]
    omega
  | .dic _, h => by simp [D.fine] at h
  | .obj _ _, h => by simp [D.fine] at h
  | .bag, h => by simp [D.fine] at h
  | .ktup _, h => by simp [D.fine] at h
theorem pyL_len : ∀ ds : List D, fineL ds = true → ((PyData.shownAll (pyL ds)).map fun t => t.length + 2).sum ≤ wtL ds
  | [], _ => by simp [pyL, PyData.shownAll]
  | x :: xs, h => by
    have h' : x.fine = true ∧ fineL xs = true := by simpa [fineL] using h
    have h1 := py_len x h'.1
    have h2 := pyL_len xs h'.2
    rw [pyL, PyData.shownAll, wtL, List.map_cons, List.sum_cons]
    omega
end
section
variable {K : PySem.W.Frag} {B : Bx} {G H : Hp}
mutual
theorem dat_dp (e : Ex G H) : ∀ {v : V} {d : D}, Dat K B G v d → d.fine = true → Dp K H v d.py
  | _, _, .non, _ => .non
  | _, _, .bl b, _ => .bl b
  | _, _, .int i, _ => .int i
  | _, _, .str x, _ => .str x
  | _, _, .lst h t, f => by
    rw [D.py]
    exact .lst (sq_of (e _ _ h)) (dats_dp e t (by simpa [D.fine] using f))
  | _, _, .tup h t, f => by
    rw [D.py]
    exact .tup (tx e h) (dats_dp e t (by simpa [D.fine] using f))
  | _, _, .dK h t, f => by simp [D.fine] at f
  | _, _, .dT h t, f => by simp [D.fine] at f
  | _, _, .ktup h t, f => by simp [D.fine] at f
  | _, _, .bag, f => by simp [D.fine] at f
  | _, _, .obj _ _ _, f => by simp [D.fine] at f
theorem dats_dp (e : Ex G H) : ∀ {v : List V} {d : List D}, Dats K B G v d → fineL d = true → DpAll K H v (pyL d)
  | _, _, .nil, _ => .nil
  | _, _, .cons h t, f => by
    have f' := (Bool.and_eq_true_iff.mp (show (D.fine _ && fineL _) = true by rw [fineL] at f; exact f))
    rw [pyL]
    exact .cons (dat_dp e h f'.1) (dats_dp e t f'.2)
end
end
def eqb (x y : D) : Bool := PyData.eqv x.py y.py
theorem eqb_refl {x : D} (h : x.fine = true) : eqb x x = true := SeqAt.eqv_refl _ (py_lay x h)
def plain (x : D) : Bool := x.fine && decide (x.dep ≤ 64)
theorem plain_shaped {x : D} (h : plain x = true) : SeqAt.shaped x.py = true := by
  have h' := Bool.and_eq_true_iff.mp h
  have h2 := py_dep x h'.1
  have h3 : x.dep ≤ 64 := of_decide_eq_true h'.2
  unfold SeqAt.shaped
  rw [py_lay x h'.1, decide_eq_true (by omega : x.py.depth ≤ 64)]
  rfl
def oEq : O2 := fun x y Q => match x, y with
  | .str a, .str b => Q (.bl (decide (a = b)))
  | .int a, .int b => Q (.bl (decide (a = b)))
  | .bl a, .bl b => Q (.bl (a == b))
  | x, y => (plain x = true ∧ plain y = true) ∧ Q (.bl (eqb x y))
def oNe : O2 := fun x y Q => match x, y with
  | .str a, .str b => Q (.bl (!decide (a = b)))
  | .int a, .int b => Q (.bl (!decide (a = b)))
  | .bl a, .bl b => Q (.bl (!(a == b)))
  | x, y => (plain x = true ∧ plain y = true) ∧ Q (.bl (!eqb x y))
theorem dec_str_v {a b : Str} : decide (V.str a = V.str b) = decide (a = b) := by
  by_cases e : a = b
  · subst e; simp
  · rw [decide_eq_false e, decide_eq_false fun z => e (V.str.inj z)]
theorem dec_int_v {a b : Int} : decide (V.int a = V.int b) = decide (a = b) := by
  by_cases e : a = b
  · subst e; simp
  · rw [decide_eq_false e, decide_eq_false fun z => e (V.int.inj z)]
theorem op_eq_d {X : Cx} {B : Bx} (hu : X.A.units + 64 < cLine) : OpR X (compareOp .Eq) (rLift X.K B oEq) := by
  intro pins s σ H x y v u P I rx ry h
  obtain ⟨G, dx, dy, Q, j, hx, hy, hq, k⟩ := h
  have gen : (plain dx = true ∧ plain dy = true) ∧ Q (.bl (eqb dx dy)) → wpAny (model X.prog X.w) X.A (compareOp .Eq v u) (EP X pins σ P) X.xe s := fun ⟨⟨px, py⟩, q⟩ =>
    op_eqD hu pins s σ H x y v u P I rx ry ⟨dx.py, dy.py, dat_dp j.ex hx (Bool.and_eq_true_iff.mp px).1, dat_dp j.ex hy (Bool.and_eq_true_iff.mp py).1, plain_shaped px, plain_shaped py, k _ _ G H q (Gr.refl j) (.bl _)⟩
  cases hx with
  | str a =>
    cases hy with
    | str b =>
      refine op_eq pins s σ H _ _ v u P I rx ry ⟨rfl, ?_⟩
      rw [dec_str_v]
      exact k _ _ G H hq (Gr.refl j) (.bl _)
    | _ => exact gen hq
  | int a =>
    cases hy with
    | int b =>
      refine op_eq pins s σ H _ _ v u P I rx ry ⟨rfl, ?_⟩
      rw [dec_int_v]
      exact k _ _ G H hq (Gr.refl j) (.bl _)
    | _ => exact gen hq
  | bl a =>
    cases hy with
    | bl b =>
      refine op_eq pins s σ H _ _ v u P I rx ry ⟨rfl, ?_⟩
      rw [dec_bl]
      exact k _ _ G H hq (Gr.refl j) (.bl _)
    | _ => exact gen hq
  | _ => exact gen hq
theorem op_ne_d {X : Cx} {B : Bx} (hu : X.A.units + 64 < cLine) : OpR X (compareOp .NotEq) (rLift X.K B oNe) := by
  intro pins s σ H x y v u P I rx ry h
  obtain ⟨G, dx, dy, Q, j, hx, hy, hq, k⟩ := h
  have gen : (plain dx = true ∧ plain dy = true) ∧ Q (.bl (!eqb dx dy)) → wpAny (model X.prog X.w) X.A (compareOp .NotEq v u) (EP X pins σ P) X.xe s := fun ⟨⟨px, py⟩, q⟩ =>
    op_neD hu pins s σ H x y v u P I rx ry ⟨dx.py, dy.py, dat_dp j.ex hx (Bool.and_eq_true_iff.mp px).1, dat_dp j.ex hy (Bool.and_eq_true_iff.mp py).1, plain_shaped px, plain_shaped py, k _ _ G H q (Gr.refl j) (.bl _)⟩
  cases hx with
  | str a =>
    cases hy with
    | str b =>
      refine op_ne pins s σ H _ _ v u P I rx ry ⟨rfl, ?_⟩
      rw [dec_str_v]
      exact k _ _ G H hq (Gr.refl j) (.bl _)
    | _ => exact gen hq
  | int a =>
    cases hy with
    | int b =>
      refine op_ne pins s σ H _ _ v u P I rx ry ⟨rfl, ?_⟩
      rw [dec_int_v]
      exact k _ _ G H hq (Gr.refl j) (.bl _)
    | _ => exact gen hq
  | bl a =>
    cases hy with
    | bl b =>
      refine op_ne pins s σ H _ _ v u P I rx ry ⟨rfl, ?_⟩
      rw [dec_bl]
      exact k _ _ G H hq (Gr.refl j) (.bl _)
    | _ => exact gen hq
  | _ => exact gen hq
def cRepr : FD := fun ds Q => match ds with
  | [d] => (plain d = true ∧ d.wt ≤ 16000000) ∧ Q (.str d.py.shown)
  | _ => False
theorem call_repr_d {X : Cx} {B : Bx} (hg : X.A.guards = some []) (hu : X.A.units + 70 < cLine) : CallR X (.builtin "repr") (cLift X.K B cRepr) := by
  intro pins s σ H vs us P I rv h
  obtain ⟨G, ds, Q, j, hd, hq, k⟩ := h
  cases hd with
  | nil => exact hq.elim
  | cons h1 h2 =>
    cases h2 with
    | cons _ _ => exact hq.elim
    | nil =>
      rename_i v d
      obtain ⟨⟨hp, hw⟩, hq⟩ := hq
      have hf := (Bool.and_eq_true_iff.mp hp).1
      have hdep : d.dep ≤ 64 := of_decide_eq_true (Bool.and_eq_true_iff.mp hp).2
      have hdep2 := py_dep d hf
      have hz : d.py.shown.length ≤ sizeLine := Nat.le_trans (py_len d hf) (Nat.le_trans hw (by decide))
      have kk := k _ _ G H hq (Gr.refl j) (.str _)
      cases rv with
      | cons r1 r2 =>
        cases r2
        cases h1 with
        | non =>
          cases r1
          exact PySem.P.repr_of_none ⟨.str _, H, I.tok _, ⟨_, rfl⟩, kk⟩
        | bl b =>
          cases r1
          refine PySem.P.repr_of_bool ⟨.str _, H, I.tok _, ⟨_, rfl⟩, ?_⟩
          rw [D.py, PyData.shown] at kk
          cases b <;> exact kk
        | int i =>
          obtain ⟨t, rfl⟩ := r1
          exact PySem.P.repr_of_int (by simpa [D.fine] using hf) ⟨.str _, H, I.tok _, ⟨_, rfl⟩, kk⟩
        | str x =>
          obtain ⟨t, rfl⟩ := r1
          exact PySem.P.repr_of_str ⟨.str _, H, I.tok _, ⟨_, rfl⟩, kk⟩ hz
        | lst a1 a2 =>
          obtain ⟨as, hr⟩ := Dp.reads I _ _ _ (dat_dp j.ex (.lst a1 a2) hf) r1
          cases r1
          exact repr_of_reads' hr (py_show _ hf) (PyData.noDict_hsm (PyData.hasDict_of_canLay _ (py_lay _ hf))) hg (by omega) (fun _ _ e => e) (fun h' u tk hk => ⟨.str _, H, I.kept hk, ⟨_, rfl⟩, kk⟩) hz
        | tup a1 a2 =>
          obtain ⟨as, hr⟩ := Dp.reads I _ _ _ (dat_dp j.ex (.tup a1 a2) hf) r1
          cases r1
          exact repr_of_reads' hr (py_show _ hf) (PyData.noDict_hsm (PyData.hasDict_of_canLay _ (py_lay _ hf))) hg (by omega) (fun _ _ e => e) (fun h' u tk hk => ⟨.str _, H, I.kept hk, ⟨_, rfl⟩, kk⟩) hz
        | _ => simp [D.fine] at hf
end DL
namespace DL
open PySem PySem.Spec PyProof.Rows L2 Evl
structure FnG (P : Program) (w : World) (K : PySem.W.Frag) (mg : Str → Option Value) (base : Heap) (CX : CXT) (k : Nat) (f : Addr) (fd : FuncData) (ps : List Str) (sp : Sp) : Prop where
  len : ∀ vs H Q E, sp vs H Q E → vs.length = ps.length
  go : ∀ (A : Around) (fr : List Env) (s : Shared) (H : Hp) (args : Args) (us : List Value) (vs : List V) (Q : VK) (E : XK), A.guards = some [] → Room k A → Env0 P w K mg base A fr s H → BindsTo s fd args (ps.zip us) → Vals vs us → sp vs H Q E →
    codeAny (model P w) A (.call (.ref f) args) (CR CX fr P w H s Q E) s
section
variable {P : Program} {w : World} {K : PySem.W.Frag} {mg : Str → Option Value} {base : Heap} {CX : CXT} {f : Addr} {fd : FuncData} {ps : List Str} {sp : Sp} {k : Nat}
theorem FnG.mono {j : Nat} (F : FnG P w K mg base CX j f fd ps sp) (h : j ≤ k) : FnG P w K mg base CX k f fd ps sp :=
  ⟨F.len, fun A fr s H args us vs Q E hg hr => F.go A fr s H args us vs Q E hg (hr.mono h)⟩
theorem fng_of {x qual : Str} {st : Stmt} {N : List Str} (F : Fun K x qual st f fd) (S : FnScope N ps (defScope st)) (len : ∀ vs H Q E, sp vs H Q E → vs.length = ps.length)
    (hbody : ∀ (cdv : Value) (A : Around) (fr : List Env) (s : Shared) (H : Hp) (vs : List V) (Q : VK) (E : XK), A.guards = some [] → Room k (A.deeper (envOfC qual (defScope st) s.heap.objs.size f cdv)) → sp vs H Q E →
      ∃ t, PSs (cxOf CX P w K mg base N qual (defScope st) f cdv A fr s H E) (defBody st) t ∧ t { nx := fun _ H' => Q .non H', rt := Q } (L2.start N vs) H) : FnG P w K mg base CX (k + 1) f fd ps sp := by
  obtain ⟨oc, od, kV, doc, pm, an, cdv, ct, osl, rfl, lk, hcd⟩ := F.ex
  refine ⟨len, fun A fr s H args us vs Q E hgd room env bnd rel hsp => ?_⟩
  have inK : K.In s.heap := env.mod.kin.keeps fun b o z => (env.bs b o z).1
  have noLim : s.heap.NoLimit := env.mod.nolimit.keeps fun b o z => (env.bs b o z).1
  refine codeAny_call_function room.depth (inK _ _ lk) rfl S.co S.gen rfl (PySem.W.codeRec_of inK hcd) (bnd _ _ _ _ ?_)
  refine wpAny_newFunctionEnv_cells S.kind (fun ⟨n, v⟩ hy => (S.par n (List.of_mem_zip hy).1).elim .inl fun z => .inr ⟨z, PySem.W.cellsFrom_some _ _ _ (.inl z)⟩) fun _ hEnv s1 born => ?_
  subst hEnv
  refine ⟨noLim.keeps born.toInCall.keep, codeAny_func ?_⟩
  obtain ⟨t, ht, hw⟩ := hbody cdv A fr s H vs Q E hgd (room.deeper _) hsp
  have I := inv_start (CX := CX) (E := E) S room.hd env (len _ _ _ _ hsp) rel born
  refine wpAny_mono (ht.run [] s1 _ H _ I hw) (fun fl s' hs => ?_) fun _ _ z => z
  cases fl with
  | next =>
    obtain ⟨σ', H', J, q⟩ := hs
    exact ⟨.non, H', J.os, J.bare, J.base, J.hok, rfl, q⟩
  | ret u =>
    obtain ⟨v, σ', H', J, rv, q⟩ := hs
    exact ⟨v, H', J.os, J.bare, J.base, J.hok, rv, q⟩
  | brk => exact hs.elim fun _ z => z.elim fun _ y => y.2.elim
  | cont => exact hs.elim fun _ z => z.elim fun _ y => y.2.elim
/-- the promise over data -/
theorem fng_d {x qual : Str} {st : Stmt} {N : List Str} {B : Bx} {S : FD} {t : DTS} (F : Fun K x qual st f fd) (Sc : FnScope N ps (defScope st)) (len : ∀ ds Q, S ds Q → ds.length = ps.length)
    (hbody : ∀ (cdv : Value) (A : Around) (fr : List Env) (s : Shared) (H : Hp) (E : XK), A.guards = some [] → Room k (A.deeper (envOfC qual (defScope st) s.heap.objs.size f cdv)) → PSsD (cxOf CX0 P w K mg base N qual (defScope st) f cdv A fr s H E).nox B (defBody st) t)
    (vc : ∀ ds Q, S ds Q → t { nx := fun _ => Q .non, rt := Q } (startD N.length ds)) : FnG P w K mg base CX0 (k + 1) f fd ps (spD K B S) := by
  refine fng_of F Sc (fun vs H Q E h => ?_) (fun cdv A fr s H vs Q E hg hr h => ⟨_, (hbody cdv A fr s H E hg hr).nox, ?_⟩)
  · obtain ⟨G, ds, R, j, hd, hs, _⟩ := h
    rw [hd.len]
    exact len ds R hs
  · obtain ⟨G, ds, R, j, hd, hs, kk⟩ := h
    refine ⟨G, H, G, startD N.length ds, _, Gr.refl j, start_ok hd, vc ds R hs, ⟨?_, ?_, ?_, ?_, ?_⟩⟩
    · exact fun σ δ G2 H2 q g _ s2 => kk .non .non G2 H2 q g .non
    · exact fun σ δ G2 H2 q g _ s2 => q.elim
    · exact fun σ δ G2 H2 q g _ s2 => q.elim
    · exact fun d v G2 H2 q g _ hd => kk d v G2 H2 q g hd
    · exact fun o v f G2 H2 q => q.elim
end
section
variable {X : Cx} {B : Bx} {CX : CXT} {k : Nat} {f : Addr} {fd : FuncData} {ps : List Str} {S : FD} {x : Str} {E : XK} {e : Expr} {es : List Expr} {pos fp : Pos}
theorem runG {sp : Sp} {pins : List (Addr × Obj)} {σ : L2.St} {H : Hp} {s : Shared} {Q : VK} {us : List Value} {vs : List V} (F : FnG X.prog X.w X.K X.mg X.base CX k f fd ps sp) (hgd : X.A.guards = some []) (hr : Room k X.A) (hb : Binds X.K fd ps []) (hx : Passes CX X E)
    (I : Inv X pins σ H s) (r : Vals vs us) (h : sp vs H Q E) : wpAny (model X.prog X.w) X.A (call (.ref f) us) (EP X pins σ Q) X.xe s := by
  have hl : (us ++ []).length = ps.length := by rw [List.append_nil, ← r.length]; exact F.len _ _ _ _ h
  have hbb := hb s us I.kIn hl
  rw [List.append_nil] at hbb
  refine wpAny_call (codeAny_mono (F.go X.A X.stack s H ⟨us, []⟩ us vs Q E hgd hr I.env0 hbb r h) fun res s' hq => ?_)
  match res, hq with
  | .error err, hq => exact hx pins σ H s err s' I hq
  | .ok (.ret u), hq => exact I.after hq
theorem pd_callG {ra : DA} (F : FnG X.prog X.w X.K X.mg X.base CX k f fd ps (spD X.K B S)) (hgd : X.A.guards = some []) (hr : Room k X.A) (hg : Gl X x) (hm : X.mg x = some (.ref f)) (hk : PySem.W.keepIn X.K (.ref f) = true)
    (hb : Binds X.K fd ps []) (hx : Passes CX X E) (ha : PAD X B (e :: es) ra) (hd : (x == ("__debug__" : Str)) = false := by decide) (he : starEach (e :: es) X.env = (false, eval e X.env) :: starEach es X.env := by rfl) (hpl : (backTo pos (starEach es X.env)).any (·.1) = false := by rfl) :
    PD X B (.Call (.Name x fp) (e :: es) [] pos) (dCall S ra) :=
  ⟨fun pins s σ H Q I q => wpAny_Call_Name_kw (ld_glob I hg hm (PySem.W.callWith_K (h₀ := X.base) I.ok.mod.kin hk (thn (ha.run pos pins s σ H _ I (liftC q)) fun us s1 ⟨vs, H1, I1, r, q1⟩ => ⟨I1.kIn, runG (E := E) F hgd hr hb hx I1 r q1⟩) he hpl) hd)⟩
end
end DL
namespace DL
open PySem PySem.Spec PyProof.Rows L2 Evl
section
variable {X : Cx} {B : Bx}
def oI (f : Int → Int → D) : O2 := fun x y Q => match x, y with
  | .int i, .int j => Q (f i j)
  | _, _ => False
theorem op_int {g : Value → Value → Sem Value} {f : Int → Int → V} {f' : Int → Int → D} (h : OpR X g (rI0 f)) (hf : ∀ G i j, Dat X.K B G (f i j) (f' i j)) : OpR X g (rLift X.K B (oI f')) := by
  intro pins s σ H x y v u P I rx ry q
  obtain ⟨G, dx, dy, Q, j, hx, hy, hq, k⟩ := q
  cases hx with
  | int a =>
    cases hy with
    | int b => exact h pins s σ H _ _ v u P I rx ry ⟨a, b, rfl, rfl, k _ _ G H hq (Gr.refl j) (hf G a b)⟩
    | _ => exact hq.elim
  | _ => exact hq.elim
def oSub : O2 := oI fun i j => .int (i - j)
def oGt : O2 := oI fun i j => .bl (decide (j < i))
def oGe : O2 := oI fun i j => .bl (decide (j ≤ i))
theorem op_sub_d : OpR X (binaryOp .Sub) (rLift X.K B oSub) := op_int op_sub fun _ _ _ => .int _
theorem op_gt_d : OpR X (compareOp .Gt) (rLift X.K B oGt) := op_int op_gt fun _ _ _ => .bl _
theorem op_ge_d : OpR X (compareOp .GtE) (rLift X.K B oGe) := op_int op_ge fun _ _ _ => .bl _
def oNeg : O1 := fun x Q => match x with
  | .int i => Q (.int (-i))
  | _ => False
theorem un_neg_d : UnR X (unaryOp .USub) (rLift1 X.K B oNeg) := by
  intro pins s σ H x v P I rx q
  obtain ⟨G, dx, Q, j, hx, hq, k⟩ := q
  cases hx with
  | int a => exact un_neg pins s σ H _ v P I rx ⟨a, rfl, k _ _ G H hq (Gr.refl j) (.int _)⟩
  | _ => exact hq.elim
def oAdd : O2 := fun x y Q => match x, y with
  | .int i, .int j => Q (.int (i + j))
  | .str a, .str b => a.length + b.length ≤ sizeLine ∧ Q (.str (a ++ b))
  | .lst xs, .lst ys => xs.length + ys.length ≤ sizeLine ∧ Q (.lst (xs ++ ys))
  | .tup xs, .tup ys => (xs ≠ [] ∧ xs.length + ys.length ≤ sizeLine) ∧ Q (.tup (xs ++ ys))
  | _, _ => False
theorem op_add_d : OpR X (binaryOp .Add) (rLift X.K B oAdd) := by
  intro pins s σ H x y v u P I rx ry q
  obtain ⟨G, dx, dy, Q, j, hx, hy, hq, k⟩ := q
  cases hx with
  | int a =>
    cases hy with
    | int b => exact op_add pins s σ H _ _ v u P I rx ry ⟨a, b, rfl, rfl, k _ _ G H hq (Gr.refl j) (.int _)⟩
    | _ => exact hq.elim
  | str a =>
    cases hy with
    | str b => exact op_add_str pins s σ H _ _ v u P I rx ry ⟨a, b, rfl, rfl, hq.1, k _ _ G H hq.2 (Gr.refl j) (.str _)⟩
    | _ => exact hq.elim
  | lst h1 t1 =>
    cases hy with
    | lst h2 t2 =>
      refine op_cat pins s σ H _ _ v u P I rx ry ⟨_, _, _, _, rfl, rfl, j.ex _ _ h1, j.ex _ _ h2, by rw [t1.len, t2.len]; exact hq.1, fun p hp => ?_⟩
      exact k _ _ (upd G p _) _ hq.2 (Gr.new j hp) (.lst upd_same ((t1.append t2).mono (Ex.new (fresh_back j.ex hp))))
    | _ => exact hq.elim
  | tup h1 t1 =>
    cases hy with
    | tup h2 t2 =>
      obtain ⟨⟨n1, n2⟩, hq⟩ := hq
      refine op_catT pins s σ H _ _ v u P I rx ry ⟨_, _, _, _, rfl, rfl, tx j.ex h1, tx j.ex h2, fun z => ?_, by rw [t1.len, t2.len]; exact n2, fun z => ?_, fun _ p hp => ?_⟩
      · subst z; cases t1; exact n1 rfl
      · subst z; cases t2; rw [List.append_nil] at hq; exact k _ _ G H hq (Gr.refl j) (.tup h1 t1)
      · exact k _ _ (upd G p _) _ hq (Gr.new j hp) (.tup upd_same ((t1.append t2).mono (Ex.new (fresh_back j.ex hp))))
    | _ => exact hq.elim
  | _ => exact hq.elim
def repS (x : Str) (n : Nat) : Str := ⟨(List.replicate n x.cps.toList).flatten.toArray⟩
def MulOkD (i j : Int) : Prop := CMul i j ∨ CMulW i j
def oMul : O2 := fun x y Q => match x, y with
  | .int i, .int j => MulOkD i j ∧ Q (.int (i * j))
  | .str a, .int n => (0 ≤ n ∧ n ≤ 100000 ∧ a.length ≤ 100) ∧ Q (.str (repS a n.toNat))
  | .lst xs, .int n => (-(2 ^ 63) ≤ n ∧ n < 2 ^ 63 ∧ xs.length * n.toNat ≤ sizeLine) ∧ Q (.lst (List.replicate n.toNat xs).flatten)
  | _, _ => False
theorem rep_fold (a : Array Nat) : ∀ (n : Nat) (acc : Array Nat), (List.replicate n a).foldl (· ++ ·) acc = acc ++ (List.replicate n a.toList).flatten.toArray
  | 0, acc => by simp
  | n + 1, acc => by
    rw [List.replicate_succ, List.replicate_succ, List.foldl_cons, rep_fold a n, List.flatten_cons, Array.append_assoc]
    congr 1
    apply Array.ext'
    simp
theorem op_mul_d : OpR X (binaryOp .Mult) (rLift X.K B oMul) := by
  intro pins s σ H x y v u P I rx ry q
  obtain ⟨G, dx, dy, Q, j, hx, hy, hq, k⟩ := q
  cases hx with
  | int a =>
    cases hy with
    | int b =>
      have kk := k _ _ G H hq.2 (Gr.refl j) (.int _)
      rcases hq.1 with c | c
      · exact op_mul pins s σ H _ _ v u P I rx ry ⟨a, b, rfl, rfl, c, kk⟩
      · exact op_mulW pins s σ H _ _ v u P I rx ry ⟨a, b, rfl, rfl, c, kk⟩
    | _ => exact hq.elim
  | str a =>
    cases hy with
    | int n =>
      obtain ⟨⟨n0, n1, al⟩, hq⟩ := hq
      obtain ⟨t, rfl⟩ := rx
      obtain ⟨t', rfl⟩ := ry
      have kk := k _ _ G H hq (Gr.refl j) (.str _)
      refine PySem.P.mul_str ?_ (fun h1 h2 => ?_) (fun h1 h2 => ?_) ?_
      · have h2 : ¬ n ≥ 2 ^ 63 := by omega
        have h3 : ¬ n < -(2 ^ 63 : Int) := by omega
        rw [decide_eq_false h2, decide_eq_false h3]; rfl
      · have h4 : (100 : Int) ≤ (2 ^ 63 - 1) / n := (Int.le_ediv_iff_mul_le (by omega)).mpr (by omega)
        omega
      · have h4 : a.length * n.toNat ≤ 100 * 100000 := Nat.mul_le_mul al (by omega)
        unfold Builtin.Str.tooLong
        rw [sizeLine_eq]
        exact decide_eq_false (by omega)
      · by_cases h1 : n < 1
        · rw [if_pos h1]
          have e : n.toNat = 0 := by omega
          rw [e] at kk
          exact ⟨by decide, .str _, H, I.tok _, ⟨_, rfl⟩, kk⟩
        · rw [if_neg h1]
          by_cases h2 : (n == 1 || a.length == 0) = true
          · rw [if_pos h2]
            refine ⟨.str _, H, I, ⟨_, rfl⟩, ?_⟩
            have e : repS a n.toNat = a := by
              rcases Bool.or_eq_true_iff.mp h2 with h3 | h3
              · have e : n.toNat = 1 := by have := eq_of_beq h3; omega
                rw [e]
                simp [repS]
              · have e : a.cps.toList = [] := by
                  have := eq_of_beq h3
                  exact List.eq_nil_of_length_eq_zero (by simpa [Str.length] using this)
                have e2 : a = ⟨#[]⟩ := by
                  cases a with
                  | mk c =>
                    have : c = #[] := by simpa using e
                    rw [this]
                rw [e2]
                simp [repS]
            rw [e] at kk
            exact kk
          · rw [if_neg h2]
            have e : (⟨(List.replicate n.toNat a.cps).foldl (· ++ ·) #[]⟩ : Str) = repS a n.toNat := by
              rw [rep_fold]
              simp [repS]
            rw [e]
            refine ⟨?_, .str _, H, I.tok _, ⟨_, rfl⟩, kk⟩
            have hl : (repS a n.toNat).length = n.toNat * a.length := by
              show (List.replicate n.toNat a.cps.toList).flatten.toArray.size = _
              rw [List.size_toArray, List.length_flatten, List.map_replicate, List.sum_replicate_nat]
              rfl
            have h4 : n.toNat * a.length ≤ 100000 * 100 := Nat.mul_le_mul (by omega) al
            rw [hl, sizeLine_eq]
            omega
    | _ => exact hq.elim
  | lst h1 t1 =>
    cases hy with
    | int n =>
      obtain ⟨⟨n0, n1, n2⟩, hq⟩ := hq
      refine op_rep pins s σ H _ _ v u P I rx ry ⟨_, _, _, rfl, rfl, j.ex _ _ h1, n0, n1, by rw [t1.len]; exact n2, fun p hp => ?_⟩
      exact k _ _ (upd G p _) _ hq (Gr.new j hp) (.lst upd_same ((t1.rep _).mono (Ex.new (fresh_back j.ex hp))))
    | _ => exact hq.elim
  | _ => exact hq.elim
def oIx : O2 := fun x y Q => match x, y with
  | .lst xs, .int i => match atI xs i with
    | some d => Q d
    | none => False
  | .tup xs, .int i => match atI xs i with
    | some d => Q d
    | none => False
  | .str a, .int i => a.length ≤ sizeLine ∧ match atI a.cps.toList i with
    | some c => Q (.str ⟨#[c]⟩)
    | none => False
  | _, _ => False
theorem Dats.at {K : PySem.W.Frag} {G : Hp} {vs : List V} {ds : List D} {i : Int} {d : D} (h : Dats K B G vs ds) (e : atI ds i = some d) : ∃ v, atI vs i = some v ∧ Dat K B G v d := by
  unfold atI at e ⊢
  rw [h.len]
  cases hi : ixN ds.length i with
  | none => rw [hi] at e; cases e
  | some m =>
    rw [hi] at e
    exact h.get e
theorem ix_d : IxR X (rLift X.K B oIx) := by
  intro va sl pins s σ H x y v u P I rx ry q hsub
  obtain ⟨G, dx, dy, Q, j, hx, hy, hq, k⟩ := q
  cases hx with
  | @lst a xs ds h1 t1 =>
    cases hy with
    | int i =>
      have hq : (match atI ds i with | some d => Q d | none => False) := hq
      cases e : atI ds i with
      | none => rw [e] at hq; exact hq.elim
      | some d =>
        rw [e] at hq
        obtain ⟨w, e2, hw⟩ := t1.at e
        exact ix_list va sl pins s σ H _ _ v u P I rx ry ⟨_, _, i, w, rfl, rfl, sq_of (j.ex _ _ h1), e2, k _ _ G H hq (Gr.refl j) hw⟩ hsub
    | _ => exact hq.elim
  | @tup a xs ds h1 t1 =>
    cases hy with
    | int i =>
      have hq : (match atI ds i with | some d => Q d | none => False) := hq
      cases e : atI ds i with
      | none => rw [e] at hq; exact hq.elim
      | some d =>
        rw [e] at hq
        obtain ⟨w, e2, hw⟩ := t1.at e
        exact ix_tup va sl pins s σ H _ _ v u P I rx ry ⟨_, _, i, w, rfl, rfl, tx j.ex h1, e2, k _ _ G H hq (Gr.refl j) hw⟩ hsub
    | _ => exact hq.elim
  | str a =>
    cases hy with
    | int i =>
      have hq : a.length ≤ sizeLine ∧ (match atI a.cps.toList i with | some c => Q (.str ⟨#[c]⟩) | none => False) := hq
      obtain ⟨hz, hq⟩ := hq
      cases e : atI a.cps.toList i with
      | none => rw [e] at hq; exact hq.elim
      | some c =>
        rw [e] at hq
        exact ix_str va sl pins s σ H _ _ v u P I rx ry ⟨a, i, c, rfl, rfl, hz, e, k _ _ G H hq (Gr.refl j) (.str _)⟩ hsub
    | _ => exact hq.elim
  | _ => exact hq.elim
abbrev DO := DS → (Option Int → Prop) → Prop
def liftO (K : PySem.W.Frag) (B : Bx) (r : DO) : TO := fun σ H P => ∃ (H0 G : Hp) (δ : DS) (Q : Option Int → Prop), Jn K B G H ∧ StOk K B H0 G H σ δ ∧ r δ Q ∧ ∀ o G2 H2, Q o → Gr K B G H G2 H2 → P o H2
abbrev POD (X : Cx) (B : Bx) (e : Option Expr) (r : DO) : Prop := PO X e (liftO X.K B r)
def noP : DO := fun _ Q => Q none
def aP (r : DE) : DO := fun δ Q => r δ fun x => match x with
  | .int i => Q (some i)
  | _ => False
theorem po_mono {e : Option Expr} {t t' : TO} (h : PO X e t) (m : ∀ σ H Q, t' σ H Q → t σ H Q) : PO X e t' := ⟨fun pins s σ H Q I hw => h.run pins s σ H Q I (m σ H Q hw)⟩
theorem pod_none : POD X B none noP := po_mono po_none fun σ H P q => by
  obtain ⟨H0, G, δ, Q, j, st, hr, k⟩ := q
  exact k none G H hr (Gr.refl j)
theorem pod_some {e : Expr} {r : DE} (h : PD X B e r) : POD X B (some e) (aP r) := po_mono (po_some h) fun σ H P q => by
  obtain ⟨H0, G, δ, Q, j, st, hr, k⟩ := q
  refine ⟨H0, G, δ, _, j, st, hr, fun d v G2 H2 q2 g2 h2 => ?_⟩
  cases h2 with
  | int i => exact ⟨i, rfl, k _ G2 H2 q2 g2⟩
  | _ => exact q2.elim
def cut {α : Type} (xs : List α) (lo hi : Option Int) : List α := (xs.drop (HT.sIx xs.length 0 lo)).take (HT.sIx xs.length xs.length hi - HT.sIx xs.length 0 lo)
def oSl (x : D) (lo hi : Option Int) (Q : D → Prop) : Prop := match x with
  | .lst xs => Q (.lst (cut xs lo hi))
  | .tup xs => Q (.tup (cut xs lo hi))
  | .str a => a.length ≤ sizeLine ∧ Q (.str ⟨(cut a.cps.toList lo hi).toArray⟩)
  | _ => False
def dSl (r : DE) (lo hi : DO) : DE := fun δ Q => r δ fun x => lo δ fun l => hi δ fun h => oSl x l h Q
theorem Dats.cut {K : PySem.W.Frag} {G : Hp} {vs : List V} {ds : List D} (h : Dats K B G vs ds) (lo hi : Option Int) : Dats K B G (cutV vs lo hi) (DL.cut ds lo hi) := by
  unfold cutV DL.cut
  rw [h.len]
  exact (h.drop _).take _
theorem sl_d : SlR X (fun x lo hi H P => ∃ (G : Hp) (dx : D) (Q : D → Prop), Jn X.K B G H ∧ Dat X.K B G x dx ∧ oSl dx lo hi Q ∧ ∀ d v G2 H2, Q d → Gr X.K B G H G2 H2 → Dat X.K B G2 v d → P v H2) := by
  intro pins s σ H x v vl vu lo hi sl P I rx r1 r2 r3 q
  obtain ⟨G, dx, Q, j, hx, hq, k⟩ := q
  cases hx with
  | lst h1 t1 =>
    refine sl_list pins s σ H _ v vl vu lo hi sl P I rx r1 r2 r3 ⟨_, _, rfl, sq_of (j.ex _ _ h1), fun p hp => ?_⟩
    exact k _ _ (upd G p _) _ hq (Gr.new j hp) (.lst upd_same ((t1.cut _ _).mono (Ex.new (fresh_back j.ex hp))))
  | tup h1 t1 =>
    refine sl_tupA pins s σ H _ v vl vu lo hi sl P I rx r1 r2 r3 ⟨_, _, rfl, tx j.ex h1, fun w => ?_, fun _ p hp => ?_⟩
    · rename_i a xs ds
      have e : cut ds lo hi = ds := by
        unfold DL.cut
        rw [← t1.len, w.1, w.2, List.drop_zero, Nat.sub_zero, t1.len, List.take_length]
      have hq : Q (.tup (cut ds lo hi)) := hq
      rw [e] at hq
      exact k _ _ G H hq (Gr.refl j) (.tup h1 t1)
    · exact k _ _ (upd G p _) _ hq (Gr.new j hp) (.tup upd_same ((t1.cut _ _).mono (Ex.new (fresh_back j.ex hp))))
  | str a =>
    exact sl_str pins s σ H _ v vl vu lo hi sl P I rx r1 r2 r3 ⟨a, rfl, hq.1, k _ _ G H hq.2 (Gr.refl j) (.str _)⟩
  | _ => exact hq.elim
theorem pd_slice {e : Expr} {lo hi : Option Expr} {r : DE} {rl rh : DO} {p2 pos : Pos} (he : PD X B e r) (hl : POD X B lo rl) (hh : POD X B hi rh) : PD X B (.Subscript e (.Slice lo hi none p2) pos) (dSl r rl rh) := pe_mono (pe_slice sl_d he hl hh) fun σ H P q => by
  obtain ⟨H0, G, δ, Q, j, st, hr, k⟩ := q
  refine ⟨H0, G, δ, _, j, st, hr, fun d v G2 H2 q2 g2 h2 => ?_⟩
  refine ⟨H0, G2, δ, _, g2.j, st.gr g2, q2, fun l G3 H3 q3 g3 => ?_⟩
  refine ⟨H0, G3, δ, _, g3.j, (st.gr g2).gr g3, q3, fun h G4 H4 q4 g4 => ?_⟩
  exact ⟨G4, d, Q, g4.j, h2.mono (g3.ex.trans g4.ex), q4, fun d' v' G5 H5 q5 g5 h5 => k d' v' G5 H5 q5 (((g2.trans g3).trans g4).trans g5) h5⟩
def isFlat : D → Bool
  | .non => true
  | .bl _ => true
  | .int _ => true
  | .str _ => true
  | _ => false
def eqF : D → D → Bool
  | .non, .non => true
  | .bl a, .bl b => a == b
  | .bl a, .int b => (if a then 1 else 0) == b
  | .int a, .bl b => a == (if b then 1 else 0)
  | .int a, .int b => a == b
  | .str a, .str b => a == b
  | _, _ => false
def inD (x : D) (xs : List D) : Bool := xs.any fun y => eqF y x
theorem flat_v {K : PySem.W.Frag} {G : Hp} {v : V} {d : D} (h : Dat K B G v d) (f : isFlat d = true) : flatV v = true := by
  cases h <;> first | rfl | cases f
theorem eq_v {K : PySem.W.Frag} {G : Hp} {v w : V} {d e : D} (h : Dat K B G v d) (h2 : Dat K B G w e) (f : isFlat d = true) (f2 : isFlat e = true) : eqV v w = eqF d e := by
  cases h with
  | non => cases h2 <;> first | rfl | cases f2
  | bl _ => cases h2 <;> first | rfl | cases f2
  | int _ => cases h2 <;> first | rfl | cases f2
  | str _ => cases h2 <;> first | rfl | cases f2
  | _ => cases f
theorem flats_v {K : PySem.W.Frag} {G : Hp} : ∀ {vs : List V} {ds : List D}, Dats K B G vs ds → ds.all isFlat = true → vs.all flatV = true
  | _, _, .nil, _ => rfl
  | _, _, .cons h t, f => by
    have f' := Bool.and_eq_true_iff.mp (show (isFlat _ && List.all _ isFlat) = true from f)
    rw [List.all_cons, flat_v h f'.1, flats_v t f'.2]
    rfl
theorem in_v {K : PySem.W.Frag} {G : Hp} {v : V} {d : D} (hv : Dat K B G v d) (fv : isFlat d = true) : ∀ {vs : List V} {ds : List D}, Dats K B G vs ds → ds.all isFlat = true → inV v vs = inD d ds
  | _, _, .nil, _ => rfl
  | _, _, .cons h t, f => by
    have f' := Bool.and_eq_true_iff.mp (show (isFlat _ && List.all _ isFlat) = true from f)
    have ih := in_v hv fv t f'.2
    unfold inV inD at ih ⊢
    rw [List.any_cons, List.any_cons, ih, eq_v h hv f'.1 fv]
def oIn (neg : Bool) : O2 := fun x y Q => match y with
  | .str z => match x with
    | .str w => match w.cps.toList with
      | [c] => Q (.bl (if neg then !decide (c ∈ z.cps.toList) else decide (c ∈ z.cps.toList)))
      | _ => False
    | _ => False
  | .lst ys => (isFlat x = true ∧ ys.all isFlat = true) ∧ Q (.bl (if neg then !inD x ys else inD x ys))
  | .tup ys => (isFlat x = true ∧ ys.all isFlat = true) ∧ Q (.bl (if neg then !inD x ys else inD x ys))
  | .ktup ys => (isFlat x = true ∧ ys.all isFlat = true) ∧ Q (.bl (if neg then !inD x ys else inD x ys))
  | _ => False
theorem sign_of {w : Str} {c : Nat} (h : w.cps.toList = [c]) : w = ⟨#[c]⟩ := by
  cases w with
  | mk cp =>
    have : cp = #[c] := by
      have : cp.toList = [c] := h
      rw [← Array.toList_inj]
      exact this
    rw [this]
theorem op_in_d : OpR X (compareOp .In) (rLift X.K B (oIn false)) := by
  intro pins s σ H x y v u P I rx ry q
  obtain ⟨G, dx, dy, Q, j, hx, hy, hq, k⟩ := q
  cases hy with
  | str z =>
    cases hx with
    | str w =>
      have hq : (match w.cps.toList with | [c] => Q (.bl (decide (c ∈ z.cps.toList))) | _ => False) := hq
      cases e : w.cps.toList with
      | nil => rw [e] at hq; exact hq.elim
      | cons c r =>
        cases r with
        | cons _ _ => rw [e] at hq; exact hq.elim
        | nil =>
          rw [e] at hq
          exact op_in_sign pins s σ H _ _ v u P I rx ry ⟨c, z, by rw [sign_of e], rfl, k _ _ G H hq (Gr.refl j) (.bl _)⟩
    | _ => exact hq.elim
  | lst h1 t1 =>
    obtain ⟨⟨f1, f2⟩, hq⟩ := hq
    refine op_in_seq pins s σ H _ _ v u P I rx ry ⟨_, _, rfl, .inl (sq_of (j.ex _ _ h1)), flat_v hx f1, flats_v t1 f2, ?_⟩
    have e := in_v hx f1 t1 f2
    rw [e]
    exact k _ _ G H hq (Gr.refl j) (.bl _)
  | tup h1 t1 =>
    obtain ⟨⟨f1, f2⟩, hq⟩ := hq
    refine op_in_seq pins s σ H _ _ v u P I rx ry ⟨_, _, rfl, .inr (tx j.ex h1), flat_v hx f1, flats_v t1 f2, ?_⟩
    have e := in_v hx f1 t1 f2
    rw [e]
    exact k _ _ G H hq (Gr.refl j) (.bl _)
  | ktup h1 t1 =>
    obtain ⟨⟨f1, f2⟩, hq⟩ := hq
    refine op_in_seq pins s σ H _ _ v u P I rx ry ⟨_, _, rfl, .inr (ex_t j.ex h1), flat_v hx f1, flats_v t1 f2, ?_⟩
    have e := in_v hx f1 t1 f2
    rw [e]
    exact k _ _ G H hq (Gr.refl j) (.bl _)
  | _ => exact hq.elim
def cLen : FD := fun ds Q => match ds with
  | [.lst xs] => Q (.int xs.length)
  | [.tup xs] => Q (.int xs.length)
  | [.str a] => a.length ≤ sizeLine ∧ Q (.int a.length)
  | _ => False
theorem call_len_d : CallR X (.builtin "len") (cLift X.K B cLen) := by
  intro pins s σ H vs us P I rv q
  obtain ⟨G, ds, Q, j, hd, hq, k⟩ := q
  cases hd with
  | nil => exact hq.elim
  | cons h1 h2 =>
    cases h2 with
    | cons _ _ => cases h1 <;> exact hq.elim
    | nil =>
      cases h1 with
      | lst a t => exact call_len_seq pins s σ H _ us P I rv ⟨_, _, rfl, .inl (sq_of (j.ex _ _ a)), by rw [t.len]; exact k _ _ G H hq (Gr.refl j) (.int _)⟩
      | tup a t => exact call_len_seq pins s σ H _ us P I rv ⟨_, _, rfl, .inr (tx j.ex a), by rw [t.len]; exact k _ _ G H hq (Gr.refl j) (.int _)⟩
      | str a => exact call_len_str pins s σ H _ us P I rv ⟨a, rfl, hq.1, k _ _ G H hq.2 (Gr.refl j) (.int _)⟩
      | _ => exact hq.elim
def cInt : FD := fun ds Q => match ds with
  | [.int i] => Q (.int i)
  | [.bl b] => Q (.int (if b then 1 else 0))
  | [.str a] => match intText? a with
    | some n => a.length ≤ 640 ∧ Q (.int n)
    | none => False
  | _ => False
theorem call_int_d : CallR X (.type "int") (cLift X.K B cInt) := by
  intro pins s σ H vs us P I rv q
  obtain ⟨G, ds, Q, j, hd, hq, k⟩ := q
  cases hd with
  | nil => exact hq.elim
  | cons h1 h2 =>
    cases h2 with
    | cons _ _ => cases h1 <;> exact hq.elim
    | nil =>
      cases h1 with
      | int i => exact call_int1 pins s σ H _ us P I rv (.inl ⟨i, rfl, k _ _ G H hq (Gr.refl j) (.int _)⟩)
      | bl b => exact call_int1 pins s σ H _ us P I rv (.inr ⟨b, rfl, k _ _ G H hq (Gr.refl j) (.int _)⟩)
      | str a =>
        have hq : (match intText? a with | some n => a.length ≤ 640 ∧ Q (.int n) | none => False) := hq
        cases e : intText? a with
        | none => rw [e] at hq; exact hq.elim
        | some n =>
          rw [e] at hq
          exact call_int_str pins s σ H _ us P I rv ⟨a, n, rfl, e, hq.1, k _ _ G H hq.2 (Gr.refl j) (.int _)⟩
      | _ => exact hq.elim
def blsOf : List D → Option (List Bool)
  | [] => some []
  | .bl b :: r => (blsOf r).map (b :: ·)
  | _ :: _ => none
theorem bls_v {K : PySem.W.Frag} {G : Hp} : ∀ {vs : List V} {ds : List D} {bs : List Bool}, Dats K B G vs ds → blsOf ds = some bs → vs = bs.map V.bl
  | _, _, bs, .nil, e => by cases e; rfl
  | _, _, bs, .cons h t, e => by
    cases h with
    | bl b =>
      have e : (blsOf _).map (b :: ·) = some bs := e
      cases h2 : blsOf _ with
      | none => rw [h2] at e; cases e
      | some cs =>
        rw [h2] at e
        cases e
        rw [bls_v t h2]
        rfl
    | _ => cases e
def cAll : FD := fun ds Q => match ds with
  | [.lst xs] => match blsOf xs with
    | some bs => Q (.bl (bs.all id))
    | none => False
  | _ => False
theorem call_all_d (hc : X.calm = true) : CallR X (.builtin "all") (cLift X.K B cAll) := by
  intro pins s σ H vs us P I rv q
  obtain ⟨G, ds, Q, j, hd, hq, k⟩ := q
  cases hd with
  | nil => exact hq.elim
  | cons h1 h2 =>
    cases h2 with
    | cons _ _ => cases h1 <;> exact hq.elim
    | nil =>
      cases h1 with
      | @lst a vs xs ha t =>
        have hq : (match blsOf xs with | some bs => Q (.bl (bs.all id)) | none => False) := hq
        cases e : blsOf xs with
        | none => rw [e] at hq; exact hq.elim
        | some bs =>
          rw [e] at hq
          have e2 := bls_v t e
          subst e2
          exact cr_all hc pins s σ H _ us P I rv ⟨a, bs, rfl, sq_of (j.ex _ _ ha), k _ _ G H hq (Gr.refl j) (.bl _)⟩
      | _ => exact hq.elim
end
end DL
namespace DL
open PySem PySem.Spec PyProof.Rows L2 Evl
section
variable {X : Cx} {B : Bx} {e : Expr} {es : List Expr} {r : DE} {pos : Pos}
def tyN : D → String
  | .non => "NoneType"
  | .bl _ => "bool"
  | .int _ => "int"
  | .str _ => "str"
  | .lst _ => "list"
  | .tup _ => "tuple"
  | .dic _ => "dict"
  | .obj _ _ => ""
  | .bag => "list"
  | .ktup _ => "tuple"
def isi (T : String) (d : D) : Bool := match d with
  | .bl _ => T == "bool" || T == "int"
  | d => tyN d == T
def pureD : D → Bool
  | .obj _ _ => false
  | .bag => false
  | .ktup _ => false
  | _ => true
def TyY (K : PySem.W.Frag) (H : Hp) (v : V) (T : String) : Prop := TyX K H v (.type T) ∨ ∃ a od kvs, v = .ref a ∧ H a = some (.frz od (.dT kvs)) ∧ T = "dict"
def rIsiD (K : PySem.W.Frag) : List V → Hp → VK → Prop := fun xs H Q => ∃ (x c : V) (T : String) (u : Value) (b : Bool), xs = [x, c] ∧ ClsV c u ∧ TyY K H x T ∧ PySem.W.kitOne K (.type T) u = some b ∧ Q (.bl b) H
theorem call_isiD : CallR X (.builtin "isinstance") (rIsiD X.K) := by
  intro pins s σ H xs us Q I r h
  obtain ⟨x, c, T, u, b, rfl, k, ty, e, q⟩ := h
  rcases ty with ty | ⟨a, od, kvs, rfl, ha, rfl⟩
  · exact call_isi pins s σ H _ us Q I r ⟨x, c, _, u, b, rfl, k, ty, e, q⟩
  · obtain ⟨u1, u2, rfl, r1, r2⟩ := vals2 r
    have e2 := k.eq r2
    subst e2
    cases (show u1 = Value.ref a from r1)
    obtain ⟨_, _, _, _, _, o, es, ep, h1, h2, _⟩ := (show ObjOk X.prog X.w H s.heap a (.frz od (.dT kvs)) from I.hok a _ ha)
    exact PySem.W.kia_one PySem.W.kitx_dict I.kIn ⟨o, h1, h2.1⟩ e (fun z => nomatch z) fun tk => ⟨.bl b, H, I.tok tk, rfl, q⟩
theorem ty_d {K : PySem.W.Frag} {G H : Hp} {v : V} {d : D} (e : Ex G H) (h : Dat K B G v d) (p : pureD d = true) : TyY K H v (tyN d) := by
  cases h with
  | non => exact .inl (.base .non)
  | bl b => exact .inl (.base (.bl b))
  | int i => exact .inl (.base (.int i))
  | str x => exact .inl (.base (.str x))
  | lst h t => exact .inl (.base (.lst (e _ _ h)))
  | tup h t => exact .inl (.base (.tup (e _ _ h)))
  | dK h t => exact .inl (.fDict (e _ _ h))
  | dT h t => exact .inr ⟨_, _, _, rfl, e _ _ h, rfl⟩
  | bag => cases p
  | ktup _ _ => cases p
  | obj _ _ _ => cases p
def knownTy (T : String) : Prop := ∀ d : D, pureD d = true → kitB (tyN d) T = some (isi T d)
theorem known_int : knownTy "int"
  | .non, _ => (by decide +kernel : kitB "NoneType" "int" = some false)
  | .bl _, _ => (by decide +kernel : kitB "bool" "int" = some true)
  | .int _, _ => (by decide +kernel : kitB "int" "int" = some true)
  | .str _, _ => (by decide +kernel : kitB "str" "int" = some false)
  | .lst _, _ => (by decide +kernel : kitB "list" "int" = some false)
  | .tup _, _ => (by decide +kernel : kitB "tuple" "int" = some false)
  | .dic _, _ => (by decide +kernel : kitB "dict" "int" = some false)
  | .obj _ _, p => nomatch p
  | .bag, p => nomatch p
  | .ktup _, p => nomatch p
theorem known_bool : knownTy "bool"
  | .non, _ => (by decide +kernel : kitB "NoneType" "bool" = some false)
  | .bl _, _ => (by decide +kernel : kitB "bool" "bool" = some true)
  | .int _, _ => (by decide +kernel : kitB "int" "bool" = some false)
  | .str _, _ => (by decide +kernel : kitB "str" "bool" = some false)
  | .lst _, _ => (by decide +kernel : kitB "list" "bool" = some false)
  | .tup _, _ => (by decide +kernel : kitB "tuple" "bool" = some false)
  | .dic _, _ => (by decide +kernel : kitB "dict" "bool" = some false)
  | .obj _ _, p => nomatch p
  | .bag, p => nomatch p
  | .ktup _, p => nomatch p
theorem known_str : knownTy "str"
  | .non, _ => (by decide +kernel : kitB "NoneType" "str" = some false)
  | .bl _, _ => (by decide +kernel : kitB "bool" "str" = some false)
  | .int _, _ => (by decide +kernel : kitB "int" "str" = some false)
  | .str _, _ => (by decide +kernel : kitB "str" "str" = some true)
  | .lst _, _ => (by decide +kernel : kitB "list" "str" = some false)
  | .tup _, _ => (by decide +kernel : kitB "tuple" "str" = some false)
  | .dic _, _ => (by decide +kernel : kitB "dict" "str" = some false)
  | .obj _ _, p => nomatch p
  | .bag, p => nomatch p
  | .ktup _, p => nomatch p
theorem known_list : knownTy "list"
  | .non, _ => (by decide +kernel : kitB "NoneType" "list" = some false)
  | .bl _, _ => (by decide +kernel : kitB "bool" "list" = some false)
  | .int _, _ => (by decide +kernel : kitB "int" "list" = some false)
  | .str _, _ => (by decide +kernel : kitB "str" "list" = some false)
  | .lst _, _ => (by decide +kernel : kitB "list" "list" = some true)
  | .tup _, _ => (by decide +kernel : kitB "tuple" "list" = some false)
  | .dic _, _ => (by decide +kernel : kitB "dict" "list" = some false)
  | .obj _ _, p => nomatch p
  | .bag, p => nomatch p
  | .ktup _, p => nomatch p
theorem known_tuple : knownTy "tuple"
  | .non, _ => (by decide +kernel : kitB "NoneType" "tuple" = some false)
  | .bl _, _ => (by decide +kernel : kitB "bool" "tuple" = some false)
  | .int _, _ => (by decide +kernel : kitB "int" "tuple" = some false)
  | .str _, _ => (by decide +kernel : kitB "str" "tuple" = some false)
  | .lst _, _ => (by decide +kernel : kitB "list" "tuple" = some false)
  | .tup _, _ => (by decide +kernel : kitB "tuple" "tuple" = some true)
  | .dic _, _ => (by decide +kernel : kitB "dict" "tuple" = some false)
  | .obj _ _, p => nomatch p
  | .bag, p => nomatch p
  | .ktup _, p => nomatch p
abbrev OM := D → List D → (D → Prop) → Prop
def isT (T : String) : D → Bool
  | .str _ => T == "str"
  | .int _ => T == "int"
  | .lst _ => T == "list"
  | _ => false
def cTuple : FD := fun ds Q => match ds with
  | [.lst xs] => Q (.tup xs)
  | [.tup xs] => Q (.tup xs)
  | _ => False
theorem call_tuple_d : CallR X (.type "tuple") (cLift X.K B cTuple) := by
  intro pins s σ H vs us P I rv q
  obtain ⟨G, ds, Q, j, hd, hq, k⟩ := q
  cases hd with
  | nil => exact hq.elim
  | cons h1 h2 =>
    cases h2 with
    | cons _ _ => cases h1 <;> exact hq.elim
    | nil =>
      cases h1 with
      | lst a t => exact call_tuple_of pins s σ H _ us P I rv ⟨_, _, rfl, .inl ⟨sq_of (j.ex _ _ a), fun p hp => k _ _ (upd G p _) _ hq (Gr.new j hp) (.tup upd_same (t.mono (Ex.new (fresh_back j.ex hp))))⟩⟩
      | tup a t => exact call_tuple_of pins s σ H _ us P I rv ⟨_, _, rfl, .inr ⟨tx j.ex a, k _ _ G H hq (Gr.refl j) (.tup a t)⟩⟩
      | _ => exact hq.elim
end
end DL
namespace DL
open PySem PySem.Spec PyProof.Rows L2 Evl
theorem obj_slt {K : PySem.W.Frag} {B : Bx} {G H : Hp} {a dx : Addr} {C : Nat} {vs : List V} (e : Ex G H) (h1 : G a = some (SlX.SlO a (B.ct C) dx (vs.map some))) (h2 : G dx = some (.xd []))   : SlX.Slt H a (B.ct C) dx (vs.map some) := .inr ⟨e _ _ h1, e _ _ h2⟩
section
variable {X : Cx} {B : Bx} {e o : Expr} {es : List Expr} {r : DE} {pos : Pos} {p g : Addr} {f m : Str} {i k C : Nat} {S : FD} {ra : DA} {E : XK}
def dFld (C : Nat) (i : Nat) (r : DE) : DE := fun δ Q => r δ fun d => match d with
  | .obj C' fs => C' = C ∧ (match fs[i]? with
    | some d => Q d
    | none => False)
  | _ => False
theorem pd_fld (c : SlX.SCls X.K (B.ct C)) (t : SlX.Slot1 X.K (B.ct C) f p i) (he : PD X B e r) (hb : attributeBase e f X.env (eval e X.env) = eval e X.env := by rfl) : PD X B (.Attribute e f pos) (dFld C i r) := pe_mono (SlX.pe_sl he hb) fun σ H P q => by
  obtain ⟨H0, G, δ, Q, j, st, hr, k⟩ := q
  refine ⟨H0, G, δ, _, j, st, hr, fun d v G2 H2 q2 g2 h2 => ?_⟩
  cases h2 with
  | @obj a dx C' vs fs h3 h4 h5 =>
    obtain ⟨rfl, q2⟩ := q2
    cases hf : fs[i]? with
    | none => rw [hf] at q2; exact q2.elim
    | some d =>
      rw [hf] at q2
      obtain ⟨u, e1, e2⟩ := h5.get hf
      exact ⟨a, B.ct C', dx, p, vs.map some, i, u, rfl, obj_slt (K := X.K) (B := B) g2.j.ex h3 h4, c, t, by rw [List.getElem?_map, e1]; rfl, k _ _ G2 H2 q2 g2 e2⟩
  | _ => exact q2.elim
def isO (C : Nat) (d : D) : Prop := match d with
  | .obj C' _ => C' = C
  | _ => False
def dMeth (C : Nat) (S : FD) (r : DE) (ra : DA) : DE := fun δ Q => r δ fun d => isO C d ∧ ra δ fun ds => S (d :: ds) Q
theorem pd_meth {pl : Sem Bool} {apos : Pos} (c : SlX.SCls X.K (B.ct C)) (hm : Meth X.K (B.ct C) m g) (F : FnR X.prog X.w X.K X.mg X.base CX0 k g (spD X.K B S)) (hr : Room k X.A) (he : PD X B o r) (ha : PAD X B (e :: es) ra)
    (hst : starEach (e :: es) X.env = (false, eval e X.env) :: starEach es X.env := by rfl) (hpl : (backTo pos (starEach es X.env)).any (·.1) = false := by rfl)
    (ht : eval (.Call (.Attribute o m apos) (e :: es) [] pos) X.env = (do let ov ← eval o X.env; standAt apos.atName; let (f, first) ← holding [ov] (getMethod ov m pl); callWith pos f first (backTo pos (starEach (e :: es) X.env)) (backToKw pos (keywordEach [] X.env))) := by rfl) :
    PD X B (.Call (.Attribute o m apos) (e :: es) [] pos) (dMeth C S r ra) := pe_mono (SlX.pe_methSl (E := E0) he c hm F hr pass0 ha hst hpl ht) fun σ H P q => by
  obtain ⟨H0, G, δ, Q, j, st, hr, k⟩ := q
  refine ⟨H0, G, δ, _, j, st, hr, fun d v G2 H2 q2 g2 h2 => ?_⟩
  obtain ⟨ho, q2⟩ := q2
  cases h2 with
  | @obj a dx C' vs fs h3 h4 h5 =>
    have ho : C' = C := ho
    subst ho
    refine ⟨a, dx, vs.map some, rfl, obj_slt (K := X.K) (B := B) g2.j.ex h3 h4, H0, G2, δ, _, g2.j, st.gr g2, q2, fun ds ws G3 H3 q3 g3 h6 => ?_⟩
    exact ⟨G3, _, Q, g3.j, .cons ((Dat.obj h3 h4 h5).mono g3.ex) h6, q3, fun d v G4 H4 q4 g4 h7 => k d v G4 H4 q4 ((g2.trans g3).trans g4) h7⟩
  | _ => exact ho.elim
end
def putD (m : Nat) (d : D) (fs : List (Option D)) : List (Option D) := (fs ++ List.replicate (m + 1 - fs.length) none).set m (some d)
theorem fld_put {K : PySem.W.Frag} {B : Bx} {G : Hp} {vs : List (Option V)} {fs : List (Option D)} {m : Nat} {v : V} {d : D} (h : FldOk K B G vs fs) (hv : Dat K B G v d) : FldOk K B G (SlX.putS m v vs) (putD m d fs) := by
  refine ⟨by unfold SlX.putS putD; simp only [List.length_set, List.length_append, List.length_replicate]; rw [h.1], fun i x e => ?_⟩
  by_cases hi : i = m
  · subst hi
    have e2 : (putD i d fs)[i]? = some (some d) := by
      unfold putD
      exact List.getElem?_set_self (by simp only [List.length_append, List.length_replicate]; omega)
    rw [e2] at e
    cases e
    exact ⟨v, SlX.putS_get i v vs, hv⟩
  · have e2 : fs[i]? = some (some x) := by
      unfold putD at e
      rw [List.getElem?_set_ne (Ne.symm hi)] at e
      by_cases hl : i < fs.length
      · rw [List.getElem?_append_left hl] at e; exact e
      · rw [List.getElem?_append_right (by omega), List.getElem?_replicate] at e
        split at e <;> cases e
    obtain ⟨u, a, b⟩ := h.2 i x e2
    exact ⟨u, (SlX.putS_ne hi).mpr a, b⟩
def notNw : Option SD → Bool
  | some (.nw _ _ _) => false
  | _ => true
def oneNw (i : Nat) (δ : DS) : Bool := (List.range δ.length).all fun j => j == i || notNw (δ.getD j none)
section
variable {K : PySem.W.Frag} {B : Bx} {G0 H0 G H : Hp} {σ : L2.St} {δ : DS} {i m C : Nat} {x dx : Addr} {vs : List (Option V)} {fs : List (Option D)} {v : V} {d : D}
theorem nw_gr (g : Gr K B G0 H0 G H) (n : NwAt K B H0 G H x C dx vs fs) (ws : List (Option V)) : Gr K B G0 H0 G (SlX.slH H x (B.ct C) dx ws) := (g.own n.hd n.gd n.bd).own n.hx n.gx n.bx
theorem nw_put (n : NwAt K B H0 G H x C dx vs fs) (hv : Dat K B G v d) : NwAt K B H0 G (SlX.slH H x (B.ct C) dx (SlX.putS m v vs)) x C dx (SlX.putS m v vs) (putD m d fs) :=
  ⟨SlX.slH_slt n.ne, .inr (by unfold SlX.slH; rw [upd_ne n.ne, upd_same]), n.ne, n.gx, n.gd, n.hx, n.hd, n.bx, n.bd, fld_put n.fl hv⟩
theorem StF.nw {F : Nat → List Addr} (y : StF K B H0 G H σ δ F) (h : δ[i]? = some (some (.nw x C fs))) : ∃ dx vs, σ[i]? = some (some (.ref x)) ∧ NwAt K B H0 G H x C dx vs fs ∧ F i = [x, dx] := by
  obtain ⟨ov, h1, s⟩ := y.get h
  generalize F i = f at s ⊢
  cases s with
  | nw n => exact ⟨_, _, h1, n, rfl⟩
theorem st_put {F : Nat → List Addr} (y : StF K B H0 G H σ δ F) (hi : δ[i]? = some (some (.nw x C fs))) (hs : σ[i]? = some (some (.ref x))) (n : NwAt K B H0 G H x C dx vs fs) (hF : F i = [x, dx]) (hv : Dat K B G v d) :
    StF K B H0 G (SlX.slH H x (B.ct C) dx (SlX.putS m v vs)) σ (δ.set i (some (.nw x C (putD m d fs)))) (fun j => if j = i then [x, dx] else F j) := by
  have z := y.put (i := i) (List.getElem?_eq_some_iff.mp hs).1 (Ex.refl G) (H2 := SlX.slH H x (B.ct C) dx (SlX.putS m v vs)) (fun p _ _ hp => ?_) (.nw (nw_put (m := m) n hv)) fun p hp => .inr (by rw [hF]; exact hp)
  · rw [set_same hs] at z
    exact z
  · rw [hF] at hp
    have h1 : p ≠ x := fun e => hp (by rw [e]; simp)
    have h2 : p ≠ dx := fun e => hp (by rw [e]; simp)
    exact ⟨SlX.slH_ne h1 h2, rfl⟩
end
section
variable {X : Cx} {B : Bx} {e : Expr} {r : DE} {pos : Pos} {p : Addr} {f : Str} {i m C : Nat}
/-- self.f = e -/
def dSelf (i m : Nat) (C : Nat) (r : DE) : DTS := fun W δ => r δ fun d => match δ[i]? with
  | some (some (.nw x C' fs)) => (C' = C ∧ oneNw i δ = true) ∧ W.nx (δ.set i (some (.nw x C (putD m d fs))))
  | _ => False
theorem psd_self {o : Expr} {pos' : Pos} (c : SlX.SCls X.K (B.ct C)) (t : SlX.Slot1 X.K (B.ct C) f p m) (ho : PE X o (tVar i)) (he : PD X B e r) (hs : swapsWith e (some (.Attribute o f pos')) pos.line X.env = pure false := by rfl) : PSD X B (.Assign [.Attribute o f pos'] e pos) (dSelf i m C r) := ps_mono (SlX.ps_sl ho he hs) fun E σ H q => by
  obtain ⟨G0, H0, G, δ, W, g, s, h, k⟩ := q
  refine at_stmt g s h fun d v G2 H2 q2 g2 e2 s2 h2 => ?_
  have q2 : (match δ[i]? with | some (some (.nw x C' fs)) => (C' = C ∧ oneNw i δ = true) ∧ W.nx (δ.set i (some (.nw x C (putD m d fs)))) | _ => False) := q2
  cases h1 : δ[i]? with
  | none => rw [h1] at q2; exact q2.elim
  | some z =>
    cases z with
    | none => rw [h1] at q2; exact q2.elim
    | some y =>
      cases y with
      | sh _ => rw [h1] at q2; exact q2.elim
      | ow _ _ => rw [h1] at q2; exact q2.elim
      | nw x C' fs =>
        rw [h1] at q2
        obtain ⟨⟨rfl, one⟩, q2⟩ := q2
        obtain ⟨F, y⟩ := s2.ex
        obtain ⟨dx, vs, a1, n, hF⟩ := StF.nw y h1
        refine ⟨.ref x, a1, x, _, dx, p, vs, m, rfl, n.sl, c, t, ?_⟩
        exact k.nx _ _ G2 _ q2 (nw_gr g2 n _) e2 ⟨_, st_put y h1 a1 n hF h2⟩
end
abbrev FI := List D → (List D → Prop) → Prop
def hid2 (H : Hp) (x dx : Addr) : Hp := fun b => if b = x ∨ b = dx then none else H b
def spI (K : PySem.W.Frag) (B : Bx) (C : Nat) (S : FI) : Sp := fun vs H P _ => ∃ (x dx : Addr) (ws : List V) (G : Hp) (ds : List D) (Q : List D → Prop), vs = .ref x :: ws ∧ H x = some (.ins (B.ct C) dx []) ∧ H dx = some (.own x) ∧ dx ≠ x ∧ G x = none ∧ G dx = none ∧ Jn K B G H ∧ B.nb x ∧ B.nb dx ∧ Dats K B G ws ds ∧ S ds Q ∧
  ∀ fs us dy G2 H2, Q fs → Gr K B G (hid2 H x dx) G2 H2 → H2 x = some (SlX.SlO x (B.ct C) dy (us.map some)) → H2 dy = some (.xd []) → dy ≠ x → G2 x = none → G2 dy = none → hid2 H x dx dy = none → B.nb dy → Dats K B G2 us fs → P .non H2
def startI (n : Nat) (x : Addr) (C : Nat) (ds : List D) : DS := some (.nw x C []) :: (ds.map (fun d => some (.sh d)) ++ List.replicate (n - 1 - ds.length) none)
def endI (x : Addr) (C : Nat) (Q : List D → Prop) : DEnds where
  nx := fun (δ : DS) => match (δ[0]? : Option (Option SD)) with
    | some (some (.nw x' C' fs)) => (x' = x ∧ C' = C) ∧ ∃ ds, fs = ds.map some ∧ ds ≠ [] ∧ Q ds
    | _ => False
  rt := fun _ => False
theorem flds_all {K : PySem.W.Frag} {B : Bx} {G : Hp} : ∀ {vs : List (Option V)} {ds : List D}, FldOk K B G vs (ds.map some) → ∃ us, vs = us.map some ∧ Dats K B G us ds
  | [], [], _ => ⟨[], rfl, .nil⟩
  | [], _ :: _, h => nomatch h.1
  | _ :: _, [], h => nomatch h.1
  | v :: vs, d :: ds, h => by
    obtain ⟨u, e1, e2⟩ := h.2 0 d rfl
    cases e1
    obtain ⟨us, e3, e4⟩ := flds_all (vs := vs) (ds := ds) ⟨Nat.succ.inj h.1, fun i x e => h.2 (i + 1) x e⟩
    exact ⟨u :: us, by rw [e3]; rfl, .cons e2 e4⟩
section
variable {P : Program} {w : World} {K : PySem.W.Frag} {mg : Str → Option Value} {base : Heap}
/-- the __init__'s entry, by its promise -/
theorem init_lift {N : List Str} {B : Bx} {C : Nat} {S : FI} {t : DTS} {vs : List V} {H : Hp} {Q : VK} {E : XK} (hN : 1 ≤ N.length) (vc : ∀ x ds Q, S ds Q → t (endI x C Q) (startI N.length x C ds)) (h : spI K B C S vs H Q E) :
    liftS K B t { nx := fun _ H' => Q .non H', rt := Q } (L2.start N vs) H := by
  obtain ⟨x, dx, ws, G, ds, R, rfl, hx, hdx, ne, gx, gd, j, nbx, nbd, hd, hs, kk⟩ := h
  have g0 : Gr K B G (hid2 H x dx) G H := by
    refine ⟨Ex.refl G, fun a o _ h => ?_, j, fun _ _ => rfl⟩
    unfold hid2 at h
    split at h
    · cases h
    · exact h
  have s0 : StOk K B (hid2 H x dx) G H (L2.start N (.ref x :: ws)) (startI N.length x C ds) := by
    have base_ := start_ok (K := K) (B := B) (H0 := hid2 H x dx) (H := H) (N := N) (vs := .ref x :: ws) (ds := .bag :: ds) (G := G)
    have len0 : (L2.start N (.ref x :: ws)).length = (startI N.length x C ds).length := by
      unfold L2.start startI
      simp only [List.length_append, List.length_map, List.length_cons, List.length_replicate]
      rw [hd.len]
      omega
    have at0 : (L2.start N (.ref x :: ws))[0]? = some (some (.ref x)) := rfl
    have rest : ∀ (i : Nat) (y : SD), (startI N.length x C ds)[i + 1]? = some (some y) → ∃ d v, y = .sh d ∧ (L2.start N (.ref x :: ws))[i + 1]? = some (some v) ∧ Dat K B G v d := fun i y e => by
      have e : (ds.map (fun d => some (SD.sh d)) ++ List.replicate (N.length - 1 - ds.length) none)[i]? = some (some y) := e
      by_cases hi : i < ds.length
      · rw [List.getElem?_append_left (by rw [List.length_map]; exact hi), List.getElem?_map] at e
        cases hdd : ds[i]? with
        | none => rw [hdd] at e; cases e
        | some d' =>
          rw [hdd] at e
          cases e
          obtain ⟨v, h1, h2⟩ := hd.get hdd
          refine ⟨d', v, rfl, ?_, h2⟩
          show (ws.map some ++ List.replicate (N.length - (ws.length + 1)) none)[i]? = _
          rw [List.getElem?_append_left (by rw [List.length_map, hd.len]; exact hi), List.getElem?_map, h1]
          rfl
      · rw [List.getElem?_append_right (by rw [List.length_map]; omega), List.getElem?_replicate] at e
        split at e <;> cases e
    have none0 : ∀ (i : Nat) (od : Option SD), (startI N.length x C ds)[i + 1]? = some od → od = none ∨ ∃ y, od = some y := fun i od _ => by cases od with | none => exact .inl rfl | some y => exact .inr ⟨y, rfl⟩
    refine ⟨fun i => if i = 0 then [x, dx] else [], len0, fun i ov od e1 e2 => ?_, fun i j' _ _ hij p hp hq => ?_⟩
    · cases i with
      | zero =>
        rw [at0] at e1
        cases e1
        cases e2
        rw [if_pos rfl]
        exact .nw ⟨.inl ⟨hx, rfl⟩, .inl hdx, ne, gx, gd, by unfold hid2; rw [if_pos (.inl rfl)], by unfold hid2; rw [if_pos (.inr rfl)], nbx, nbd, rfl, fun i d e => nomatch e⟩
      | succ i =>
        rw [if_neg (Nat.succ_ne_zero i)]
        rcases none0 i od e2 with rfl | ⟨y, rfl⟩
        · exact .no
        · obtain ⟨d', v, rfl, h2, h3⟩ := rest i y e2
          rw [h2] at e1
          cases e1
          exact .sh h3
    · by_cases h1 : i = 0
      · have h2 : j' ≠ 0 := fun z => hij (h1.trans z.symm)
        rw [if_neg h2] at hq
        exact nomatch hq
      · rw [if_neg h1] at hp
        exact nomatch hp
  refine ⟨G, hid2 H x dx, G, startI N.length x C ds, endI x C R, g0, s0, vc x ds R hs, ⟨?_, ?_, ?_, ?_, ?_⟩⟩
  · intro σ δ G2 H2 q g _ s2
    have q : (match (δ[0]? : Option (Option SD)) with | some (some (.nw x' C' fs)) => (x' = x ∧ C' = C) ∧ ∃ ds, fs = ds.map some ∧ ds ≠ [] ∧ R ds | _ => False) := q
    cases h1 : δ[0]? with
    | none => rw [h1] at q; exact q.elim
    | some z =>
      cases z with
      | none => rw [h1] at q; exact q.elim
      | some y =>
        cases y with
        | sh _ => rw [h1] at q; exact q.elim
        | ow _ _ => rw [h1] at q; exact q.elim
        | nw x' C' fs =>
          rw [h1] at q
          obtain ⟨⟨rfl, rfl⟩, es, rfl, hne, q⟩ := q
          obtain ⟨d2, us, a1, n⟩ := s2.nw 0 x' C' _ h1
          obtain ⟨zs, rfl, hz⟩ := flds_all n.fl
          rcases n.sl with ⟨z1, z2⟩ | ⟨z1, z2⟩
          · have : zs = [] := by simpa using z2
            subst this
            cases hz
            exact absurd rfl hne
          · exact kk es zs d2 G2 H2 q g z1 z2 n.ne n.gx n.gd n.hd n.bd hz
  · exact fun σ δ G2 H2 q g _ s2 => q.elim
  · exact fun σ δ G2 H2 q g _ s2 => q.elim
  · exact fun d v G2 H2 q g _ hd => q.elim
  · exact fun o v f G2 H2 q g _ hd => q.elim
end
section
variable {X : Cx} {B : Bx} {e : Expr} {es : List Expr} {pos : Pos} {g : Addr} {k C : Nat} {x : Str} {ra : DA} {S : FI}
def dMake (C : Nat) (S : FI) (ra : DA) : DE := fun δ Q => ra δ fun ds => S ds fun fs => Q (.obj C fs)
theorem pd_make {fp : Pos} (M : Mk X.K (B.ct C) g) (F : FnR X.prog X.w X.K X.mg X.base CX0 k g (spI X.K B C S)) (hr : Room (k + 1) X.A) (hg : Gl X x) (hm : X.mg x = some (.ref (B.ct C))) (ha : PAD X B (e :: es) ra) (hdb : (x == ("__debug__" : Str)) = false := by decide)
    (he : starEach (e :: es) X.env = (false, eval e X.env) :: starEach es X.env := by rfl) (hpl : (backTo pos (starEach es X.env)).any (·.1) = false := by rfl) : PD X B (.Call (.Name x fp) (e :: es) [] pos) (dMake C S ra) := pe_mono (StX.pe_makeR (E := E0) M F hr hg hm pass0 ha hdb he hpl) fun σ H P q => by
  obtain ⟨H0, G, δ, Q, j, st, hr, k⟩ := q
  refine ⟨H0, G, δ, _, j, st, hr, fun ds vs G2 H2 q2 g2 h2 y dx hy hdx ne => ?_⟩
  have gy : G2 y = none := fresh_back g2.j.ex hy
  have gd : G2 dx = none := fresh_back g2.j.ex hdx
  have j1 : Jn X.K B G2 (upd (upd H2 dx (.own y)) y (.ins (B.ct C) dx [])) := by
    have a := Gr.new0 (o := .own y) g2.j hdx
    exact (Gr.new0 (o := .ins (B.ct C) dx []) a.j (by rw [upd_ne (Ne.symm ne)]; exact hy)).j
  have eh : hid2 (upd (upd H2 dx (.own y)) y (.ins (B.ct C) dx [])) y dx = H2 := by
    funext b
    unfold hid2
    by_cases h1 : b = y
    · subst h1; rw [if_pos (.inl rfl), hy]
    · by_cases h3 : b = dx
      · subst h3; rw [if_pos (.inr rfl), hdx]
      · rw [if_neg (fun z => z.elim h1 h3), upd_ne h1, upd_ne h3]
  refine ⟨y, dx, vs, G2, ds, _, rfl, upd_same, by rw [upd_ne ne, upd_same], ne, gy, gd, j1, Gr.neB g2.j hy, Gr.neB g2.j hdx, h2, q2, fun fs us dy G3 H3 q3 g3 z1 z2 z3 z4 z5 z6 z7 z8 => ⟨rfl, ?_⟩⟩
  rw [eh] at g3 z6
  have g4 := g3.frz (p := dy) z6 z5 z7 z2
  have g5 := g4.frz (p := y) hy (by rw [upd_ne (Ne.symm z3)]; exact z4) (Gr.neB g2.j hy) z1
  have e5 : Ex G3 (upd (upd G3 dy (.xd [])) y (SlX.SlO y (B.ct C) dy (us.map some))) := (Ex.new z5).trans (Ex.new (by rw [upd_ne (Ne.symm z3)]; exact z4))
  exact k _ _ _ _ q3 (g2.trans g5) (.obj upd_same (by rw [upd_ne z3, upd_same]) (z8.mono e5))
end
end DL
namespace DL
open PySem PySem.Spec PyProof.Rows L2 Evl
structure DefAt (K : PySem.W.Frag) (mg : Str → Option Value) (x : Str) (st : Stmt) (ps : List Str) where
  f : Addr
  fd : FuncData
  fn : Fun K x x st f fd
  bd : Binds K fd ps []
  at_ : mg x = some (.ref f)
/-- a def within a class: its address and how it is bound -/
structure InAt (K : PySem.W.Frag) (x qual : Str) (st : Stmt) (ps : List Str) where
  f : Addr
  fd : FuncData
  fn : Fun K x qual st f fd
  bd : Binds K fd ps []
structure SlotAt (K : PySem.W.Frag) (C : Addr) (x : Str) (i : Nat) : Prop where
  ex : ∃ p, SlX.Slot1 K C x p i
/-- by positions -/
theorem fn_r {P : Program} {w : World} {K : PySem.W.Frag} {mg : Str → Option Value} {base : Heap} {CX : CXT} {k : Nat} {f : Addr} {fd : FuncData} {ps : List Str} {sp : Sp} (F : FnOk P w K mg base CX k f fd ps sp) (b : Binds K fd ps []) : FnR P w K mg base CX k f sp :=
  (F.raw b .nil).imp fun vs H Q E h => by rw [List.append_nil]; exact h
section
variable {X : Cx} {B : Bx} {e o : Expr} {es : List Expr} {r : DE} {pos : Pos} {C k k' i : Nat} {S : FD} {ra : DA} {f m : Str} {g : Addr}
/-- f(..), a def of the module -/
theorem pd_callD {x : Str} {st : Stmt} {ps : List Str} {fp : Pos} (T : DefAt X.K X.mg x st ps) (F : FnOk X.prog X.w X.K X.mg X.base CX0 k T.f T.fd ps (spD X.K B S)) (hr : Room k' X.A) (hk : k ≤ k') (hg : Gl X x) (ha : PAD X B (e :: es) ra) (hd : (x == ("__debug__" : Str)) = false := by decide) (he : starEach (e :: es) X.env = (false, eval e X.env) :: starEach es X.env := by rfl) (hpl : (backTo pos (starEach es X.env)).any (·.1) = false := by rfl) :
    PD X B (.Call (.Name x fp) (e :: es) [] pos) (dCall S ra) := pd_call F (hr.mono hk) hg T.at_ T.fn.kp T.bd (E := E0) pass0 ha hd he hpl
theorem pd_callDG {x : Str} {st : Stmt} {ps : List Str} {fp : Pos} (T : DefAt X.K X.mg x st ps) (F : FnG X.prog X.w X.K X.mg X.base CX0 k T.f T.fd ps (spD X.K B S)) (hgd : X.A.guards = some []) (hr : Room k' X.A) (hk : k ≤ k') (hg : Gl X x) (ha : PAD X B (e :: es) ra) (hd : (x == ("__debug__" : Str)) = false := by decide) (he : starEach (e :: es) X.env = (false, eval e X.env) :: starEach es X.env := by rfl) (hpl : (backTo pos (starEach es X.env)).any (·.1) = false := by rfl) :
    PD X B (.Call (.Name x fp) (e :: es) [] pos) (dCall S ra) := pd_callG F hgd (hr.mono hk) hg T.at_ T.fn.kp T.bd (E := E0) pass0 ha hd he hpl
theorem pd_fldD (c : SlX.SCls X.K (B.ct C)) (T : SlotAt X.K (B.ct C) f i) (he : PD X B e r) (hb : attributeBase e f X.env (eval e X.env) = eval e X.env := by rfl) : PD X B (.Attribute e f pos) (dFld C i r) := by
  obtain ⟨p, h⟩ := T.ex
  exact pd_fld c h he hb
end
section
variable {X : Cx} {B : Bx} {e : Expr} {r : DE} {pos : Pos} {C i m n : Nat} {f f2 : Str}
theorem psd_selfD {o : Expr} {pos' : Pos} (c : SlX.SCls X.K (B.ct C)) (t : SlotAt X.K (B.ct C) f m) (ho : PE X o (tVar i)) (he : PD X B e r) (hs : swapsWith e (some (.Attribute o f pos')) pos.line X.env = pure false := by rfl) : PSD X B (.Assign [.Attribute o f pos'] e pos) (dSelf i m C r) := by
  obtain ⟨p, h⟩ := t.ex
  exact psd_self c h ho he hs
end
theorem get_list {X : Cx} : PGet X (fun o i H Q => ∃ p xs j v, o = .ref p ∧ i = .int ((j : Nat) : Int) ∧ SqL X.K H p xs ∧ xs[j]? = some v ∧ Q v H) := by
  intro pins s σ H o i ov iv Q I ro ri h
  obtain ⟨p, xs, j, v, rfl, rfl, hq, e, q⟩ := h
  cases ro
  obtain ⟨t, rfl⟩ := ri
  obtain ⟨its, r, pl, hz⟩ := I.list hq
  obtain ⟨w, ew, rw'⟩ := r.get e
  have hj := (List.getElem?_eq_some_iff.mp e).1
  exact getItem_listL pl.isList (by omega) (by have := line63; omega) ew ⟨v, H, I, rw', q⟩
end DL
namespace DL
open PySem PySem.Spec PyProof.Rows L2 Evl
theorem ups_succ (lo : Int) (n : Nat) : ups lo (n + 1) = .int lo :: ups (lo + 1) n := by
  unfold ups
  rw [List.range_succ_eq_map, List.map_cons, List.map_map]
  congr 1
  · simp
  · apply List.map_congr_left
    intro k _
    show D.int _ = D.int _
    congr 1
    simp only [Nat.succ_eq_add_one]
    omega
theorem ups_zero (lo : Int) : ups lo 0 = [] := rfl
theorem bls_map (f : D → Bool) : ∀ ds : List D, blsOf (ds.map fun d => .bl (f d)) = some (ds.map f)
  | [] => rfl
  | d :: ds => by
    show (blsOf (ds.map fun d => .bl (f d))).map (f d :: ·) = _
    rw [bls_map f ds]
    rfl
theorem atI_pos {α : Type} {xs : List α} {i : Int} (h0 : 0 ≤ i) (h1 : i < xs.length) : atI xs i = some (xs[i.toNat]'(by omega)) := by
  have e : i = ((i.toNat : Nat) : Int) := by omega
  have h : xs[i.toNat]? = some (xs[i.toNat]'(by omega)) := List.getElem?_eq_getElem _
  have := atI_nat h
  rw [← e] at this
  exact this
theorem atI_q {α : Type} {xs : List α} {i : Int} {v : α} (h0 : 0 ≤ i) (h : xs[i.toNat]? = some v) : atI xs i = some v := by
  have e : i = ((i.toNat : Nat) : Int) := by omega
  rw [e]
  exact atI_nat h
theorem cut_to {α : Type} (xs : List α) (n : Nat) : cut xs none (some (n : Int)) = xs.take n := by
  unfold cut
  rw [HT.sIx_none, HT.sIx_nat, List.drop_zero, Nat.sub_zero]
  by_cases h : n ≤ xs.length
  · rw [Nat.min_eq_left h]
  · rw [Nat.min_eq_right (by omega), List.take_length, List.take_of_length_le (by omega)]
theorem cut_from {α : Type} (xs : List α) (n : Nat) : cut xs (some (n : Int)) none = xs.drop n := by
  unfold cut
  rw [HT.sIx_none, HT.sIx_nat]
  by_cases h : n ≤ xs.length
  · rw [Nat.min_eq_left h, List.take_of_length_le (by simp)]
  · rw [Nat.min_eq_right (by omega), Nat.sub_self, List.take_zero, List.drop_of_length_le (by omega)]
section
variable {α : Type} {a b c d e f g h : α} {xs : List α}
theorem atI0 : atI (a :: xs) 0 = some a := atI_nat (j := 0) rfl
theorem atI1 : atI (a :: b :: xs) 1 = some b := atI_nat (j := 1) rfl
theorem atI2 : atI (a :: b :: c :: xs) 2 = some c := atI_nat (j := 2) rfl
theorem atI3 : atI (a :: b :: c :: d :: xs) 3 = some d := atI_nat (j := 3) rfl
theorem atI4 : atI (a :: b :: c :: d :: e :: xs) 4 = some e := atI_nat (j := 4) rfl
theorem atI5 : atI (a :: b :: c :: d :: e :: f :: xs) 5 = some f := atI_nat (j := 5) rfl
theorem atI6 : atI (a :: b :: c :: d :: e :: f :: g :: xs) 6 = some g := atI_nat (j := 6) rfl
theorem atI7 : atI (a :: b :: c :: d :: e :: f :: g :: h :: xs) 7 = some h := atI_nat (j := 7) rfl
end
def S__law_alike : FD := fun ds Q => match ds with
  | [x, y] => (x = y ∧ plain x = true ∧ x.wt ≤ 16000000) ∧ Q (.bl true)
  | _ => False
def S__law_take : FD := fun ds Q => match ds with
  | [.bag, .int n] => (0 < n ∧ n.natAbs.log2 < 9000) ∧ ∀ v, 0 ≤ v → v < n → Q (.int v)
  | _ => False
theorem small_log {n : Int} (h0 : 0 < n) (h1 : n < 1000000000) : n.natAbs.log2 < 9000 := by
  have h2 : n.natAbs.log2 < 30 := (Nat.log2_lt (by omega)).mpr (by omega)
  omega
end DL
namespace DL
open PySem PySem.Spec PyProof.Rows L2 Evl
section
variable {K : PySem.W.Frag} {mg : Str → Option Value} {h : Heap} {x qual : Str} {st : Stmt} {ps : List Str} {f C p : Addr} {oc : Value} {od an : Option Addr} {osl : Array (Option Value)} {kV doc pm cdv ct : Value} {rest : List Value}
def mkDef (X : K.In h) (G : h.Ns mainGlobals mg) (b : ∀ (kV doc pm : Value) (an : Option Addr) (cdv ct : Value) (us : List Value), us.length = ps.length → bindArgs (PySem.W.fnOf x x (defArgs st) (defBody st) (defScope st) .none kV doc pm an cdv ct) ⟨us, []⟩ = pure (ps.zip us))
    (a : PySem.W.nsIn K mainGlobals x = some (some (.ref f))) (l : K.lookup f = some ⟨oc, od, .func (PySem.W.fnOf x x (defArgs st) (defBody st) (defScope st) .none kV doc pm an cdv ct), osl⟩) (c : PySem.W.codeIn K cdv x = true) (k : PySem.W.keepIn K (.ref f) = true) : DefAt K mg x st ps :=
  ⟨f, _, fun_mk l c k, (fun_mk l c k).binds b, PySem.W.mg_of X G a⟩
def mkIn (b : ∀ (kV doc pm : Value) (an : Option Addr) (cdv ct : Value) (us : List Value), us.length = ps.length → bindArgs (PySem.W.fnOf x qual (defArgs st) (defBody st) (defScope st) .none kV doc pm an cdv ct) ⟨us, []⟩ = pure (ps.zip us))
    (l : K.lookup f = some ⟨oc, od, .func (PySem.W.fnOf x qual (defArgs st) (defBody st) (defScope st) .none kV doc pm an cdv ct), osl⟩) (c : PySem.W.codeIn K cdv qual = true) (k : PySem.W.keepIn K (.ref f) = true) : InAt K x qual st ps :=
  ⟨f, _, fun_mk l c k, (fun_mk l c k).binds b⟩
theorem ex_def (X : K.In h) (G : h.Ns mainGlobals mg) (b : ∀ (kV doc pm : Value) (an : Option Addr) (cdv ct : Value) (us : List Value), us.length = ps.length → bindArgs (PySem.W.fnOf x x (defArgs st) (defBody st) (defScope st) .none kV doc pm an cdv ct) ⟨us, []⟩ = pure (ps.zip us))
    (a : PySem.W.nsIn K mainGlobals x = some (some (.ref f))) (l : K.lookup f = some ⟨oc, od, .func (PySem.W.fnOf x x (defArgs st) (defBody st) (defScope st) .none kV doc pm an cdv ct), osl⟩) (c : PySem.W.codeIn K cdv x = true) (k : PySem.W.keepIn K (.ref f) = true) : Nonempty (DefAt K mg x st ps) := ⟨mkDef X G b a l c k⟩
/-- the law's own def: bound in every world -/
theorem ex_law {y : Str} (X : K.In h) (G : h.Ns mainGlobals mg) (b : ∀ (kV doc pm : Value) (an : Option Addr) (cdv ct : Value) (us : List Value), us.length = [y].length → bindArgs (PySem.W.fnOf x x (defArgs st) (defBody st) (defScope st) .none kV doc pm an cdv ct) ⟨us, []⟩ = pure ([y].zip us))
    (a : PySem.W.nsIn K mainGlobals x = some (some (.ref f))) (l : K.lookup f = some ⟨oc, od, .func (PySem.W.fnOf x x (defArgs st) (defBody st) (defScope st) .none kV doc pm an cdv ct), osl⟩) (c : PySem.W.codeIn K cdv x = true) (k : PySem.W.keepIn K (.ref f) = true) :
    ∃ t : DefAt K mg x st [y], ∀ (s : Shared) (v : Value), BindsTo s t.fd ⟨[v], []⟩ [(y, v)] := ⟨mkDef X G b a l c k, fun _ v => .of_eq (b kV doc pm an cdv ct [v] rfl)⟩
theorem ex_meth (b : ∀ (kV doc pm : Value) (an : Option Addr) (cdv ct : Value) (us : List Value), us.length = ps.length → bindArgs (PySem.W.fnOf x qual (defArgs st) (defBody st) (defScope st) .none kV doc pm an cdv ct) ⟨us, []⟩ = pure (ps.zip us))
    (a : PySem.W.findIn K (.ref C) x = some (some (.ref f))) (i : PySem.W.isFn K (.ref f) = true) (l : K.lookup f = some ⟨oc, od, .func (PySem.W.fnOf x qual (defArgs st) (defBody st) (defScope st) .none kV doc pm an cdv ct), osl⟩) (c : PySem.W.codeIn K cdv qual = true) (k : PySem.W.keepIn K (.ref f) = true) :
    ∃ t : InAt K x qual st ps, Meth K C x t.f := ⟨mkIn b l c k, a, i, k⟩
theorem ex_slot {i : Nat} (a : PySem.W.findIn K (.ref C) x = some (some (.ref p))) (g : PySem.W.specialIn K (.ref p) "__get__" = some (some (.builtin "member_descriptor.__get__"))) (tk : PySem.W.takesIn K (.ref p) = some true) (ty : PySem.W.typeIn K (.ref p) = some (.type "member_descriptor")) (ix : PySem.W.slotIn K p C = some i) (lt : i < 1000) : SlotAt K C x i := ⟨p, a, g, tk, ty, ix, lt⟩
end
end DL
namespace DL
open PySem PySem.Spec PyProof.Rows L2 Evl
section
variable {X : Cx} {B : Bx} {e : Expr} {r : DE} {pos : Pos} {C : Nat}
def dExt (i : Nat) (ra : DA) : DTS := fun W δ => match δ[i]? with
  | some (some (.ow v (.lst xs))) => ra δ fun ys => xs.length + ys.length ≤ sizeLine ∧ W.nx (δ.set i (some (.ow v (.lst (xs ++ ys.map .sh)))))
  | _ => False
theorem Owns.len {K : PySem.W.Frag} {G H : Hp} : ∀ {vs : List V} {xs : List OD} {f : List Addr}, Owns K B G H vs xs f → vs.length = xs.length
  | _, _, _, .nil => rfl
  | _, _, _, .cons _ t => by rw [List.length_cons, List.length_cons, Owns.len t]
theorem Owns.append {K : PySem.W.Frag} {G H : Hp} : ∀ {vs ws : List V} {xs ys : List OD} {f g : List Addr}, Owns K B G H vs xs f → Owns K B G H ws ys g → Owns K B G H (vs ++ ws) (xs ++ ys) (f ++ g)
  | _, _, _, _, _, _, .nil, s => s
  | _, _, _, _, _, _, .cons h t, s => by rw [List.append_assoc]; exact .cons h (Owns.append t s)
/-- one's own list changes at its top -/
theorem StF.top {K : PySem.W.Frag} {H0 G H : Hp} {σ : L2.St} {δ : DS} {F : Nat → List Addr} {i : Nat} {p : Addr} {o' : OD} {hob : HO} {f f' : List Addr} (x : StF K B H0 G H σ δ F) (h2 : σ[i]? = some (some (.ref p))) (hF : F i = p :: f) (nd : (F i).Nodup) (hh : ∀ q ∈ F i, H0 q = none ∧ B.nb q)
    (hw : Own K B G (upd H p hob) (.ref p) o' f') (nd' : f'.Nodup) (hf : ∀ q ∈ f', q ∈ F i) : StOk K B H0 G (upd H p hob) σ (δ.set i (some (.ow (.ref p) o'))) := by
  have z := x.put (i := i) (List.getElem?_eq_some_iff.mp h2).1 (Ex.refl G) (H2 := upd H p hob) (fun q _ _ hq => ⟨upd_ne fun e => hq (by rw [hF, e]; exact List.mem_cons_self), rfl⟩) (.ow hw nd' fun q hq => hh q (hf q hq)) fun q hq => .inr (hf q hq)
  rw [set_same h2] at z
  exact ⟨_, z⟩
/-- what stands behind the top is kept -/
theorem Owns.past {K : PySem.W.Frag} {G H : Hp} {vs : List V} {xs : List OD} {f : List Addr} {p : Addr} {ho : HO} (h : Owns K B G H vs xs f) (hp : p ∉ f) : Owns K B G (upd H p ho) vs xs f := h.keep (Ex.refl G) fun q hq => ⟨upd_ne fun e => hp (e ▸ hq), rfl⟩
theorem psd_ext {i : Nat} {x : Str} {ra : DA} {pos' : Pos} (hN : X.N.Nodup) (hi : X.N[i]? = some x) (hx : Loc X.env.scope x) (he : PF X B e ra) (hf : X.fn x = true ∨ X.env.scope.names.lookup x = some .local := by first | exact .inl rfl | exact .inr rfl | assumption) :
    PSD X B (.AugAssign (.Name x pos') .Add e pos) (dExt i ra) := ps_mono (ps_aug hN hi hx he iop_ext hf) fun E σ H q => by
  obtain ⟨G0, H0, G, δ, W, g0, st, h, k⟩ := q
  unfold dExt at h
  cases h1 : δ[i]? with
  | none => rw [h1] at h; exact h.elim
  | some o' =>
    cases o' with
    | none => rw [h1] at h; exact h.elim
    | some z =>
      cases z with
      | sh d => rw [h1] at h; exact h.elim
      | nw _ _ _ => rw [h1] at h; exact h.elim
      | ow v o =>
        cases o with
        | sh _ => rw [h1] at h; exact h.elim
        | dic _ _ => rw [h1] at h; exact h.elim
        | lst xs =>
          rw [h1] at h
          obtain ⟨F, y⟩ := st.ex
          obtain ⟨a1, a2, nd, hh⟩ := y.ow h1
          refine ⟨v, a1, H0, G, δ, _, g0.j, st, h, fun ds p2 ws G2 H2 q2 g2 hp2 gp2 h2 hd => ?_⟩
          have y2 := y.gr g2
          obtain ⟨b1, b2, _, _⟩ := y2.ow h1
          generalize hF : F i = fi at b2
          cases b2 with
          | @lst p vs _ f c1 c2 c3 =>
            have nd2 : (p :: f).Nodup := hF ▸ nd
            refine ⟨p, p2, vs, ws, rfl, rfl, c1, h2, by rw [c3.len, hd.len]; exact q2.1, ?_⟩
            show E.nx (σ.set i (some (.ref p))) _
            rw [set_same a1]
            have hp := hh p (by rw [hF]; exact List.mem_cons_self)
            refine k.nx _ _ _ _ q2.2 ((g0.trans g2).own hp.1 c2 hp.2) g2.ex (StF.top y2 a1 hF nd hh (f' := p :: f) (.lst upd_same c2 ?_) nd2 (by rw [hF]; exact fun q hq => hq))
            have c4 := (c3.past (ho := .lst (vs ++ ws)) (List.nodup_cons.mp nd2).1).append (Owns.of (H := upd H2 p (.lst (vs ++ ws))) hd)
            rw [List.append_nil] at c4
            exact c4
def oIs (n : Bool) : O2 := fun x y Q => match x, y with
  | .bl a, .bl b => Q (.bl (if n then !decide (a = b) else decide (a = b)))
  | _, _ => False
theorem op_isnot_d : OpR X (compareOp .IsNot) (rLift X.K B (oIs true)) := by
  intro pins s σ H x y v u P I rx ry q
  obtain ⟨G, dx, dy, Q, j, hx, hy, hq, k⟩ := q
  cases hx with
  | bl a =>
    cases hy with
    | bl b => exact op_notBl pins s σ H _ _ v u P I rx ry ⟨a, b, rfl, rfl, k _ _ G H hq (Gr.refl j) (.bl _)⟩
    | _ => exact hq.elim
  | _ => exact hq.elim
def downs (lo : Int) (n : Nat) : List D := (List.range n).map fun k : Nat => D.int (lo - (k : Int))
def iR3 (ra : DA) : DA := fun δ Q => ra δ fun ds => match ds with
  | [.int a, .int b, .int c] => (c = -1 ∧ -(2 ^ 62) ≤ a ∧ a < 2 ^ 62 ∧ -(2 ^ 62) ≤ b ∧ b < 2 ^ 62) ∧ Q (downs a (a - b).toNat)
  | _ => False
theorem itd_down {K : PySem.W.Frag} {G : Hp} {lo : Int} {n : Nat} : ItD K B (Itc lo (-1) n) G (downs lo n) where
  go := fun i G1 H e j h => by
    have : (downs lo n).length = n := by simp [downs]
    show i < n
    omega
  yld := fun i G1 H x H' d e j h hd => by
    obtain ⟨rfl, rfl⟩ := h
    refine ⟨G1, Gr.refl j, ?_⟩
    unfold downs at hd
    rw [List.getElem?_map] at hd
    cases hr : (List.range n)[i]? with
    | none => rw [hr] at hd; cases hd
    | some k =>
      rw [hr] at hd
      cases hd
      have hk := List.getElem?_eq_some_iff.mp hr
      obtain ⟨h1, h2⟩ := hk
      rw [List.getElem_range] at h2
      subst h2
      have e : lo + (i : Int) * -1 = lo - (i : Int) := by omega
      rw [e]
      exact .int _
  stop := fun i G1 H e j h => by
    have : (downs lo n).length = n := by simp [downs]
    show n ≤ i
    omega
theorem pid_r3 {tg a b c : Expr} {ra : DA} {p : Pos} (hg : Gl X "range") (hm : X.mg "range" = none) (ha : PAD X B [a, b, c] ra) (hs : starEach [a, b, c] X.env = (false, eval a X.env) :: starEach [b, c] X.env := by rfl) (hpl : (backTo pos (starEach [b, c] X.env)).any (·.1) = false := by rfl) :
    PID X B tg (.Call (.Name "range" p) [a, b, c] [] pos) (iR3 ra) :=
  ⟨fun pins s σ H R I h => (pi_range3 (tg := tg) hg hm ha hs hpl).run pins s σ H R I (by
    obtain ⟨H0, G, δ, Q, j, st, hr, k⟩ := h
    refine ⟨H0, G, δ, _, j, st, hr, fun ds vs G2 H2 q2 g2 h2 => ?_⟩
    cases h2 with
    | nil => exact q2.elim
    | cons h3 h4 =>
      cases h3 with
      | int n =>
        cases h4 with
        | nil => exact q2.elim
        | cons h5 h6 =>
          cases h5 with
          | int m =>
            cases h6 with
            | nil => exact q2.elim
            | cons h7 h8 =>
              cases h7 with
              | int l =>
                cases h8 with
                | cons _ _ => exact q2.elim
                | nil =>
                  obtain ⟨⟨e1, b1, b2, b3, b4⟩, q2⟩ := q2
                  subst e1
                  exact ⟨n, m, -1, _, rfl, RgC.neg b1 b2 b3 b4, k _ _ G2 H2 q2 g2 itd_down⟩
              | _ => exact q2.elim
          | _ => exact q2.elim
      | _ => exact q2.elim)⟩
end
end DL
namespace DL
open PySem PySem.Spec PyProof.Rows L2 Evl
end DL
namespace DL
open PySem PySem.Spec PyProof.Rows L2 Evl
def strVals : List Value → Option (List Str)
  | [] => some []
  | .str x _ :: r => (strVals r).map (x :: ·)
  | _ :: _ => none
def cTup (xs : List Str) : D := .ktup (xs.map .str)
theorem strVals_ok {K : PySem.W.Frag} {B : Bx} {G : Hp} : ∀ {us : List Value} {xs : List Str}, strVals us = some xs → Vals (xs.map V.str) us ∧ Dats K B G (xs.map V.str) (xs.map .str)
  | [], xs, h => by cases h; exact ⟨.nil, .nil⟩
  | .str x t :: r, xs, h => by
    have h : (strVals r).map (x :: ·) = some xs := h
    cases e : strVals r with
    | none => rw [e] at h; cases h
    | some ys =>
      rw [e] at h
      cases h
      obtain ⟨h1, h2⟩ := strVals_ok (K := K) (B := B) (G := G) e
      exact ⟨.cons ⟨t, rfl⟩ h1, .cons (.str x) h2⟩
  | .none :: _, _, h => nomatch h
  | .bool _ :: _, _, h => nomatch h
  | .int _ _ :: _, _, h => nomatch h
  | .ref _ :: _, _, h => nomatch h
theorem ex_tupS {K : PySem.W.Frag} {mg : Str → Option Value} {h : Heap} {x : Str} {p : Addr} {o : Obj} {its : Array Value} {n : Nat} {xs : List Str} (X : K.In h) (G : h.Ns mainGlobals mg) (a : PySem.W.nsIn K mainGlobals x = some (some (.ref p))) (l : K.lookup p = some o) (c : o.cls = .type "tuple") (d : o.data = .seq its n)
    (z : its.size ≤ sizeLine) (v : strVals its.toList = some xs) : ∃ p, mg x = some (.ref p) ∧ ∀ B G, Dat K B G (.ref p) (cTup xs) :=
  ⟨p, PySem.W.mg_of X G a, fun B G => by
    obtain ⟨h1, h2⟩ := strVals_ok (K := K) (B := B) (G := G) v
    exact .ktup (.inr ⟨o, its, n, l, c, d, z, h1⟩) h2⟩
section
variable {X : Cx} {B : Bx} {pos : Pos} {keys : List (Option Expr)} {values : List Expr} {ks : List Str} {ra : DA} {r ry : DE} {e o i : Expr}
/-- what is new is locked for ever -/
theorem pe_lockR {t t' : TE} (h : PE X e t) (m : ∀ σ H Q, t' σ H Q → t σ H fun v H1 => ∃ d u, H1 d = some u ∧ Mut (some u) ∧ ∀ od, Q v (upd H1 d (.frz od u))) : PE X e t' := ⟨fun pins s σ H Q I hw => thn (h.run pins s σ H _ I (m σ H Q hw)) fun u s1 ⟨v, H1, I1, r1, d, o, hd, mu, q⟩ => by
  obtain ⟨od, I2⟩ := I1.lock hd mu
  exact ⟨v, _, I2, r1, q od⟩⟩
end
/-- a comprehension over what a list of one's own tells -/
theorem lc_of {α : Type} {i : Nat} {te : DE} {δ : DS} {Q : List D → Prop} (g h : α → D) : ∀ (xs : List α) (acc : List D), (∀ x ∈ xs, ∀ R : D → Prop, R (h x) → te (δ.set i (some (.sh (g x)))) R) → Q (acc ++ xs.map h) → lcD (gN i) dYes te δ Q (xs.map g) acc
  | [], acc, _, q => by
    rw [List.map_nil, List.append_nil] at q
    exact q
  | x :: xs, acc, hx, q => by
    show te (δ.set i (some (.sh (g x)))) fun y => lcD (gN i) dYes te δ Q (xs.map g) (acc ++ [y])
    refine hx x List.mem_cons_self _ (lc_of g h xs _ (fun z hz => hx z (List.mem_cons_of_mem _ hz)) ?_)
    rw [List.append_assoc]
    exact q
end DL
namespace DL
open PySem PySem.Spec PyProof.Rows L2 Evl
def EvD (r : DE) (δ : DS) (P : D → Prop) : Prop := ∀ Q : D → Prop, (∀ d, P d → Q d) → r δ Q
section
variable {δ : DS} {P P1 P2 : D → Prop} {r r1 r2 : DE} {ra : DA} {W : DEnds} {u : DTS} {i j : Nat}
theorem ev_var {d : D} (h : δ[i]? = some (some (.sh d))) (p : P d) : EvD (dVar i) δ P := fun Q k => by
  unfold dVar
  rw [h]
  exact k d p
theorem ev_c {d : D} (p : P d) : EvD (dC d) δ P := fun Q k => k d p
theorem EvD.mono (h : EvD r δ P1) (w : ∀ d, P1 d → P d) : EvD r δ P := fun Q k => h Q fun d p => k d (w d p)
end
theorem ints_v {K : PySem.W.Frag} {B : Bx} {G : Hp} : ∀ {ns : List Int} {vs : List V}, Dats K B G vs (ns.map D.int) → vs = ns.map V.int
  | [], _, .nil => rfl
  | _ :: _, _, .cons h t => by
    cases h
    rw [ints_v t]
    rfl
def cMaxL : FD := fun ds Q => match ds with
  | [.lst xs] => ∃ ns : List Int, xs = ns.map .int ∧ 0 < ns.length ∧ ∀ m, m ∈ ns → (∀ y, y ∈ ns → y ≤ m) → Q (.int m)
  | _ => False
section
variable {X : Cx} {B : Bx}
theorem call_maxL_d (hc : X.calm = true) : CallR X (.builtin "max") (cLift X.K B cMaxL) := by
  intro pins s σ H vs us P I rv q
  obtain ⟨G, ds, Q, j, hd, hq, k⟩ := q
  cases hd with
  | nil => exact hq.elim
  | cons h1 h2 =>
    cases h1 with
    | lst hp t =>
      cases h2 with
      | cons _ _ => exact hq.elim
      | nil =>
        obtain ⟨ns, rfl, hl, hm⟩ := hq
        have e := ints_v t
        subst e
        exact cr_max hc pins s σ H _ us P I rv ⟨_, ns, rfl, sq_of (j.ex _ _ hp), hl, fun m h3 h4 => k _ _ G H (hm m h3 h4) (Gr.refl j) (.int _)⟩
    | _ => exact hq.elim
end
end DL
namespace DL
open PySem PySem.Spec PyProof.Rows L2 Evl
open Sem (wp)
end DL
namespace DL
open PySem PySem.Spec PyProof.Rows L2 Evl
end DL
namespace DL
open PySem PySem.Spec PyProof.Rows L2 Evl
def iteS (b : Bool) (t u : DTS) (W : DEnds) (δ : DS) : Prop := if b = true then t W δ else u W δ
def iteE (b : Bool) (r u : DE) (δ : DS) (Q : D → Prop) : Prop := if b = true then r δ Q else u δ Q
def anE (x : D) (r : DE) (δ : DS) (Q : D → Prop) : Prop := match x with
  | .bl c => if c = true then r δ Q else Q (.bl false)
  | _ => False
def orE (x : D) (r : DE) (δ : DS) (Q : D → Prop) : Prop := match x with
  | .bl c => if c = true then Q (.bl true) else r δ Q
  | _ => False
def anT (b : Bool) (u : DT) (δ : DS) (Q : Bool → Prop) : Prop := if b = true then u δ Q else Q false
def orT (b : Bool) (u : DT) (δ : DS) (Q : Bool → Prop) : Prop := if b = true then Q true else u δ Q
def notB (b : Bool) (Q : Bool → Prop) : Prop := Q (!b)
def blD (x : D) (Q : Bool → Prop) : Prop := match x with
  | .bl b => Q b
  | _ => False
def seqD (d : D) (Q : List D → Prop) : Prop := match d with
  | .lst xs => Q xs
  | .tup xs => Q xs
  | .str x => Q (chars x)
  | _ => False
def szD (n : Nat) (P : Prop) : Prop := match decide (n ≤ 1000) with
  | true => P
  | false => False
def tupD (d : D) (n : Nat) (K : List D → Prop) : Prop := match d with
  | .tup ds => match decide (ds.length = n) with
    | true => K ds
    | false => False
  | _ => False
def atD (o : Option D) (Q : D → Prop) : Prop := match o with
  | some d => Q d
  | none => False
def atC (o : Option Nat) (Q : D → Prop) : Prop := match o with
  | some c => Q (.str ⟨#[c]⟩)
  | none => False
def ownD (o : Option (Option SD)) (K : V → List OD → Prop) : Prop := match o with
  | some (some (.ow v (.lst xs))) => K v xs
  | _ => False
def ownO (o : Option (Option SD)) (K : V → OD → Prop) : Prop := match o with
  | some (some (.ow v x)) => K v x
  | _ => False
def intO (x : D) (Q : Option Int → Prop) : Prop := match x with
  | .int i => Q (some i)
  | _ => False
def headL (ds : List D) (K : D → List D → Prop) : Prop := match ds with
  | d :: ds => K d ds
  | [] => False
def nilL (ds : List D) (P : Prop) : Prop := match ds with
  | [] => P
  | _ => False
section
variable {δ : DS} {Q : D → Prop} {QL : List D → Prop} {QB : Bool → Prop} {QO : Option Int → Prop} {QS : DS → Prop} {W : DEnds} {r ra rb : DE} {rA : DA} {tc t u : DT} {ts us : DTS} {a b : Int} {x y : Str} {xs ys ds : List D} {p q : Bool} {n : Bool} {lo hi : Option Int} {rlo rhi : DO} {d : D} {i j k : Nat} {o2 : O2} {o1 : O1} {S : FD} {g : DG} {gs : DGs} {P : Prop} {K : List D → Prop} {vs : List Nat}
theorem z_var0 : dVar 0 (some (.sh d) :: δ) Q = Q d := propext Iff.rfl
theorem z_varS {o : Option SD} : dVar (i + 1) (o :: δ) Q = dVar i δ Q := propext Iff.rfl
theorem z_own {K : V → List OD → Prop} {v : V} {xs : List OD} : ownD (some (some (.ow v (.lst xs)))) K = K v xs := propext Iff.rfl
theorem z_c : dC d δ Q = Q d := propext Iff.rfl
theorem z_nil : dNil δ QL = QL [] := propext Iff.rfl
theorem z_cons : dCons r rA δ QL = r δ fun x => rA δ fun xs => QL (x :: xs) := propext Iff.rfl
theorem z_tup : dTup rA δ Q = rA δ fun ds => szD ds.length (Q (.tup ds)) := propext Iff.rfl
theorem z_lst : fLst rA δ QL = rA δ fun ds => szD ds.length (QL ds) := propext Iff.rfl
theorem z_sz {n : Nat} (h : n ≤ 1000) : szD n P = P := by unfold szD; rw [decide_eq_true h]
theorem z_f : dF rA δ Q = rA δ fun ds => Q (.lst ds) := propext Iff.rfl
theorem z_op : dOp o2 ra rb δ Q = ra δ fun x => rb δ fun y => o2 x y Q := propext Iff.rfl
theorem z_un : dUn o1 ra δ Q = ra δ fun x => o1 x Q := propext Iff.rfl
theorem z_tBl : tBl r δ QB = r δ fun x => blD x QB := propext Iff.rfl
theorem z_bl : blD (.bl p) QB = QB p := propext Iff.rfl
theorem z_tNt : tNt t δ QB = t δ fun b => notB b QB := propext Iff.rfl
theorem z_notT : notB true QB = QB false := propext Iff.rfl
theorem z_notF : notB false QB = QB true := propext Iff.rfl
theorem z_dNt : dNt ra δ Q = ra δ fun x => blD x fun c => notB c fun c => Q (.bl c) := propext Iff.rfl
theorem z_call : dCall S rA δ Q = rA δ fun ds => S ds Q := propext Iff.rfl
theorem z_next : dNext W δ = W.nx δ := propext Iff.rfl
theorem z_seqS : dSeq ts us W δ = ts { W with nx := us W } δ := propext Iff.rfl
theorem z_ret : dRet r W δ = r δ W.rt := propext Iff.rfl
theorem z_gN : gN i d δ QS = QS (δ.set i (some (.sh d))) := propext Iff.rfl
theorem z_gsNil : gsNil ds δ QS = nilL ds (QS δ) := propext Iff.rfl
theorem z_gsCons : gsCons g gs ds δ QS = headL ds fun d ds => g d δ fun δ' => gs ds δ' QS := by unfold gsCons headL; rfl
theorem z_headL {K : D → List D → Prop} : headL (d :: ds) K = K d ds := propext Iff.rfl
theorem z_nilL : nilL [] P = P := propext Iff.rfl
theorem z_gT : gT k gs d δ QS = tupD d k fun ds => gs ds δ QS := propext Iff.rfl
theorem z_tupD (h : ds.length = k) : tupD (.tup ds) k K = K ds := by unfold tupD; simp only [h, decide_true]
theorem z_set : dSet i r W δ = r δ fun d => W.nx (δ.set i (some (.sh d))) := propext Iff.rfl
theorem z_own0 {K : V → List OD → Prop} {v : V} {xs : List OD} : ownD (some (.ow v (.lst xs)) :: δ)[0]? K = K v xs := propext Iff.rfl
theorem z_ownO0 {K : V → OD → Prop} {v : V} {x : OD} : ownO (some (.ow v x) :: δ)[0]? K = K v x := propext Iff.rfl
theorem z_ownOS {K : V → OD → Prop} {o : Option SD} : ownO (o :: δ)[i + 1]? K = ownO δ[i]? K := by rw [List.getElem?_cons_succ]
theorem z_ownS {K : V → List OD → Prop} {o : Option SD} : ownD (o :: δ)[i + 1]? K = ownD δ[i]? K := by rw [List.getElem?_cons_succ]
theorem z_ext : dExt i rA W δ = ownD δ[i]? fun v xs => rA δ fun ys => xs.length + ys.length ≤ sizeLine ∧ W.nx (δ.set i (some (.ow v (.lst (xs ++ ys.map .sh))))) := propext Iff.rfl
theorem z_frz : dFrz i ts W δ = ownO δ[i]? fun _ x => ts W (δ.set i (some (.sh x.toD))) := propext Iff.rfl
theorem z_for : dFor rA g ts W δ = rA δ fun ds => forD g ts W ds δ := propext Iff.rfl
theorem z_lc {te : DE} {tt : DT} : fLc rA g tt te vs δ QL = rA δ fun ds => ds.length ≤ sizeLine ∧ lcD g tt te (wipeD δ vs) QL ds [] := propext Iff.rfl
theorem z_yes : dYes δ QB = QB true := propext Iff.rfl
theorem z_sl : dSl r rlo rhi δ Q = r δ fun x => rlo δ fun l => rhi δ fun h => oSl x l h Q := propext Iff.rfl
theorem z_noP : noP δ QO = QO none := propext Iff.rfl
theorem z_aP : aP r δ QO = r δ fun x => intO x QO := propext Iff.rfl
theorem z_intO : intO (.int a) QO = QO (some a) := propext Iff.rfl
theorem z_ifS : dIfS tc ts us W δ = tc δ fun b => iteS b ts us W δ := propext Iff.rfl
theorem iteS_t : iteS true ts us W δ = ts W δ := propext Iff.rfl
theorem iteS_f : iteS false ts us W δ = us W δ := propext Iff.rfl
theorem iteS_pos {c : Prop} [Decidable c] (h : c) : iteS (decide c) ts us W δ = ts W δ := by rw [decide_eq_true h]; rfl
theorem iteS_neg {c : Prop} [Decidable c] (h : ¬ c) : iteS (decide c) ts us W δ = us W δ := by rw [decide_eq_false h]; rfl
theorem z_ifE : dIfE tc ra rb δ Q = tc δ fun b => iteE b ra rb δ Q := propext Iff.rfl
theorem iteE_t : iteE true ra rb δ Q = ra δ Q := propext Iff.rfl
theorem iteE_f : iteE false ra rb δ Q = rb δ Q := propext Iff.rfl
theorem z_an : dAn ra rb δ Q = ra δ fun x => anE x rb δ Q := propext Iff.rfl
theorem z_or : dOr ra rb δ Q = ra δ fun x => orE x rb δ Q := propext Iff.rfl
theorem anE_t : anE (.bl true) r δ Q = r δ Q := propext Iff.rfl
theorem anE_f : anE (.bl false) r δ Q = Q (.bl false) := propext Iff.rfl
theorem orE_t : orE (.bl true) r δ Q = Q (.bl true) := propext Iff.rfl
theorem orE_f : orE (.bl false) r δ Q = r δ Q := propext Iff.rfl
theorem z_tan : tAn t u δ QB = t δ fun b => anT b u δ QB := propext Iff.rfl
theorem z_tor : tOrr t u δ QB = t δ fun b => orT b u δ QB := propext Iff.rfl
theorem anT_t : anT true u δ QB = u δ QB := propext Iff.rfl
theorem anT_f : anT false u δ QB = QB false := propext Iff.rfl
theorem orT_t : orT true u δ QB = QB true := propext Iff.rfl
theorem orT_f : orT false u δ QB = u δ QB := propext Iff.rfl
theorem z_seq : iSeq r δ QL = r δ fun d => seqD d QL := propext Iff.rfl
theorem z_seqL : seqD (.lst xs) QL = QL xs := propext Iff.rfl
theorem z_seqT : seqD (.tup xs) QL = QL xs := propext Iff.rfl
theorem z_seqSt : seqD (.str x) QL = QL (chars x) := propext Iff.rfl
theorem z_neg : oNeg (.int a) Q = Q (.int (-a)) := propext Iff.rfl
theorem z_sub : oSub (.int a) (.int b) Q = Q (.int (a - b)) := propext Iff.rfl
theorem z_gt : oGt (.int a) (.int b) Q = Q (.bl (decide (b < a))) := propext Iff.rfl
theorem z_ge : oGe (.int a) (.int b) Q = Q (.bl (decide (b ≤ a))) := propext Iff.rfl
theorem z_addI : oAdd (.int a) (.int b) Q = Q (.int (a + b)) := propext Iff.rfl
theorem z_addS : oAdd (.str x) (.str y) Q = (x.length + y.length ≤ sizeLine ∧ Q (.str (x ++ y))) := propext Iff.rfl
theorem z_addL : oAdd (.lst xs) (.lst ys) Q = (xs.length + ys.length ≤ sizeLine ∧ Q (.lst (xs ++ ys))) := propext Iff.rfl
theorem z_addT : oAdd (.tup xs) (.tup ys) Q = ((xs ≠ [] ∧ xs.length + ys.length ≤ sizeLine) ∧ Q (.tup (xs ++ ys))) := propext Iff.rfl
theorem z_mulI : oMul (.int a) (.int b) Q = (MulOkD a b ∧ Q (.int (a * b))) := propext Iff.rfl
theorem z_mulS : oMul (.str x) (.int b) Q = ((0 ≤ b ∧ b ≤ 100000 ∧ x.length ≤ 100) ∧ Q (.str (repS x b.toNat))) := propext Iff.rfl
theorem z_mulL : oMul (.lst xs) (.int b) Q = ((-(2 ^ 63) ≤ b ∧ b < 2 ^ 63 ∧ xs.length * b.toNat ≤ sizeLine) ∧ Q (.lst (List.replicate b.toNat xs).flatten)) := propext Iff.rfl
theorem z_atD : atD (some d) Q = Q d := propext Iff.rfl
theorem z_atC {c : Nat} : atC (some c) Q = Q (.str ⟨#[c]⟩) := propext Iff.rfl
theorem z_ixL : oIx (.lst xs) (.int a) Q = atD (atI xs a) Q := propext Iff.rfl
theorem z_ixT : oIx (.tup xs) (.int a) Q = atD (atI xs a) Q := propext Iff.rfl
theorem z_ixS : oIx (.str x) (.int a) Q = (x.length ≤ sizeLine ∧ atC (atI x.cps.toList a) Q) := propext Iff.rfl
theorem z_ixL0 {e0 : D} : oIx (.lst (e0 :: xs)) (.int 0) Q = Q e0 := by
  show atD (atI _ 0) Q = _
  rw [atI0]
  rfl
theorem z_ixL1 {e0 e1 : D} : oIx (.lst (e0 :: e1 :: xs)) (.int 1) Q = Q e1 := by
  show atD (atI _ 1) Q = _
  rw [atI1]
  rfl
theorem z_ixL2 {e0 e1 e2 : D} : oIx (.lst (e0 :: e1 :: e2 :: xs)) (.int 2) Q = Q e2 := by
  show atD (atI _ 2) Q = _
  rw [atI2]
  rfl
theorem z_ixL3 {e0 e1 e2 e3 : D} : oIx (.lst (e0 :: e1 :: e2 :: e3 :: xs)) (.int 3) Q = Q e3 := by
  show atD (atI _ 3) Q = _
  rw [atI3]
  rfl
theorem z_ixL4 {e0 e1 e2 e3 e4 : D} : oIx (.lst (e0 :: e1 :: e2 :: e3 :: e4 :: xs)) (.int 4) Q = Q e4 := by
  show atD (atI _ 4) Q = _
  rw [atI4]
  rfl
theorem z_ixL5 {e0 e1 e2 e3 e4 e5 : D} : oIx (.lst (e0 :: e1 :: e2 :: e3 :: e4 :: e5 :: xs)) (.int 5) Q = Q e5 := by
  show atD (atI _ 5) Q = _
  rw [atI5]
  rfl
theorem z_ixL6 {e0 e1 e2 e3 e4 e5 e6 : D} : oIx (.lst (e0 :: e1 :: e2 :: e3 :: e4 :: e5 :: e6 :: xs)) (.int 6) Q = Q e6 := by
  show atD (atI _ 6) Q = _
  rw [atI6]
  rfl
theorem z_ixL7 {e0 e1 e2 e3 e4 e5 e6 e7 : D} : oIx (.lst (e0 :: e1 :: e2 :: e3 :: e4 :: e5 :: e6 :: e7 :: xs)) (.int 7) Q = Q e7 := by
  show atD (atI _ 7) Q = _
  rw [atI7]
  rfl
theorem z_ixT0 {e0 : D} : oIx (.tup (e0 :: xs)) (.int 0) Q = Q e0 := by
  show atD (atI _ 0) Q = _
  rw [atI0]
  rfl
theorem z_ixT1 {e0 e1 : D} : oIx (.tup (e0 :: e1 :: xs)) (.int 1) Q = Q e1 := by
  show atD (atI _ 1) Q = _
  rw [atI1]
  rfl
theorem z_ixT2 {e0 e1 e2 : D} : oIx (.tup (e0 :: e1 :: e2 :: xs)) (.int 2) Q = Q e2 := by
  show atD (atI _ 2) Q = _
  rw [atI2]
  rfl
theorem z_ixT3 {e0 e1 e2 e3 : D} : oIx (.tup (e0 :: e1 :: e2 :: e3 :: xs)) (.int 3) Q = Q e3 := by
  show atD (atI _ 3) Q = _
  rw [atI3]
  rfl
theorem z_ixT4 {e0 e1 e2 e3 e4 : D} : oIx (.tup (e0 :: e1 :: e2 :: e3 :: e4 :: xs)) (.int 4) Q = Q e4 := by
  show atD (atI _ 4) Q = _
  rw [atI4]
  rfl
theorem z_ixT5 {e0 e1 e2 e3 e4 e5 : D} : oIx (.tup (e0 :: e1 :: e2 :: e3 :: e4 :: e5 :: xs)) (.int 5) Q = Q e5 := by
  show atD (atI _ 5) Q = _
  rw [atI5]
  rfl
theorem z_ixT6 {e0 e1 e2 e3 e4 e5 e6 : D} : oIx (.tup (e0 :: e1 :: e2 :: e3 :: e4 :: e5 :: e6 :: xs)) (.int 6) Q = Q e6 := by
  show atD (atI _ 6) Q = _
  rw [atI6]
  rfl
theorem z_ixT7 {e0 e1 e2 e3 e4 e5 e6 e7 : D} : oIx (.tup (e0 :: e1 :: e2 :: e3 :: e4 :: e5 :: e6 :: e7 :: xs)) (.int 7) Q = Q e7 := by
  show atD (atI _ 7) Q = _
  rw [atI7]
  rfl
theorem z_eqS : oEq (.str x) (.str y) Q = Q (.bl (decide (x = y))) := propext Iff.rfl
theorem z_eqI : oEq (.int a) (.int b) Q = Q (.bl (decide (a = b))) := propext Iff.rfl
theorem z_eqB : oEq (.bl p) (.bl q) Q = Q (.bl (p == q)) := propext Iff.rfl
theorem z_eqL : oEq (.lst xs) (.lst ys) Q = ((plain (.lst xs) = true ∧ plain (.lst ys) = true) ∧ Q (.bl (eqb (.lst xs) (.lst ys)))) := propext Iff.rfl
theorem z_eqT : oEq (.tup xs) (.tup ys) Q = ((plain (.tup xs) = true ∧ plain (.tup ys) = true) ∧ Q (.bl (eqb (.tup xs) (.tup ys)))) := propext Iff.rfl
theorem z_neS : oNe (.str x) (.str y) Q = Q (.bl (!decide (x = y))) := propext Iff.rfl
theorem z_neI : oNe (.int a) (.int b) Q = Q (.bl (!decide (a = b))) := propext Iff.rfl
theorem z_neB : oNe (.bl p) (.bl q) Q = Q (.bl (!(p == q))) := propext Iff.rfl
theorem z_neL : oNe (.lst xs) (.lst ys) Q = ((plain (.lst xs) = true ∧ plain (.lst ys) = true) ∧ Q (.bl (!eqb (.lst xs) (.lst ys)))) := propext Iff.rfl
theorem z_neT : oNe (.tup xs) (.tup ys) Q = ((plain (.tup xs) = true ∧ plain (.tup ys) = true) ∧ Q (.bl (!eqb (.tup xs) (.tup ys)))) := propext Iff.rfl
theorem z_inL : oIn false d (.lst ys) Q = ((isFlat d = true ∧ ys.all isFlat = true) ∧ Q (.bl (inD d ys))) := propext Iff.rfl
theorem z_inT : oIn false d (.tup ys) Q = ((isFlat d = true ∧ ys.all isFlat = true) ∧ Q (.bl (inD d ys))) := propext Iff.rfl
theorem z_ninL : oIn true d (.lst ys) Q = ((isFlat d = true ∧ ys.all isFlat = true) ∧ Q (.bl (!inD d ys))) := propext Iff.rfl
theorem z_ninT : oIn true d (.tup ys) Q = ((isFlat d = true ∧ ys.all isFlat = true) ∧ Q (.bl (!inD d ys))) := propext Iff.rfl
theorem z_inK : oIn false d (.ktup ys) Q = ((isFlat d = true ∧ ys.all isFlat = true) ∧ Q (.bl (inD d ys))) := propext Iff.rfl
theorem z_ninK : oIn true d (.ktup ys) Q = ((isFlat d = true ∧ ys.all isFlat = true) ∧ Q (.bl (!inD d ys))) := propext Iff.rfl
theorem z_slL : oSl (.lst xs) lo hi Q = Q (.lst (cut xs lo hi)) := propext Iff.rfl
theorem z_slT : oSl (.tup xs) lo hi Q = Q (.tup (cut xs lo hi)) := propext Iff.rfl
theorem z_slS : oSl (.str x) lo hi Q = (x.length ≤ sizeLine ∧ Q (.str ⟨(cut x.cps.toList lo hi).toArray⟩)) := propext Iff.rfl
theorem z_lenL : cLen [.lst xs] Q = Q (.int xs.length) := propext Iff.rfl
theorem z_lenT : cLen [.tup xs] Q = Q (.int xs.length) := propext Iff.rfl
theorem z_lenS : cLen [.str x] Q = (x.length ≤ sizeLine ∧ Q (.int x.length)) := propext Iff.rfl
theorem z_intI : cInt [.int a] Q = Q (.int a) := propext Iff.rfl
theorem z_intB : cInt [.bl p] Q = Q (.int (if p then 1 else 0)) := propext Iff.rfl
theorem z_tupL : cTuple [.lst xs] Q = Q (.tup xs) := propext Iff.rfl
theorem z_tupT : cTuple [.tup xs] Q = Q (.tup xs) := propext Iff.rfl
theorem z_par {i j : Nat} {r1 r2 : DE} : dPar i j (dCons r1 (dCons r2 dNil)) W δ = r1 δ fun x => r2 δ fun y => W.nx ((δ.set i (some (.sh x))).set j (some (.sh y))) := propext Iff.rfl
end
def r1D (ds : List D) (QL : List D → Prop) : Prop := match ds with
  | [.int n] => (-(2 ^ 62) ≤ n ∧ n < 2 ^ 62) ∧ QL (ups 0 n.toNat)
  | _ => False
def fldD (C i : Nat) (d : D) (Q : D → Prop) : Prop := match d with
  | .obj C' fs => C' = C ∧ atD fs[i]? Q
  | _ => False
section
variable {δ : DS} {Q : D → Prop} {QL : List D → Prop} {r ra rb : DE} {rA : DA} {a b : Int} {x : Str} {xs ds : List D} {d : D} {C C' i : Nat} {S : FD} {SI : FI} {ks : List Str} {kv : List (D × D)} {T : String} {m : OM} {p : Bool}
theorem z_r1 : iR1 rA δ QL = rA δ fun ds => r1D ds QL := propext Iff.rfl
theorem z_r1D : r1D [.int a] QL = ((-(2 ^ 62) ≤ a ∧ a < 2 ^ 62) ∧ QL (ups 0 a.toNat)) := propext Iff.rfl
theorem z_fld : dFld C i r δ Q = r δ fun d => fldD C i d Q := propext Iff.rfl
theorem z_fldD : fldD C i (.obj C xs) Q = atD xs[i]? Q := by
  show (C = C ∧ _) = _
  simp
theorem z_isO : isO C (.obj C xs) = True := by
  show (C = C) = True
  simp
theorem z_meth : dMeth C S r rA δ Q = r δ fun d => isO C d ∧ rA δ fun ds => S (d :: ds) Q := propext Iff.rfl
theorem z_make : dMake C SI rA δ Q = rA δ fun ds => SI ds fun fs => Q (.obj C fs) := propext Iff.rfl
end
end DL
namespace DL
open PySem PySem.Spec PyProof.Rows L2 Evl
def KdAll (K : PySem.W.Frag) (a : Addr) : List (Str × Str) → Prop
  | [] => True
  | (x, v) :: r => (∃ t, PySem.W.nsIn K a x = some (some (.str v t))) ∧ KdAll K a r
structure KDs (K : PySem.W.Frag) (w : World) (a : Addr) (tbl : List (Str × Str)) : Prop where
  ex : ∃ es n, K.lookup a = some ⟨.type "dict", none, .dict es n, #[]⟩ ∧ PySem.W.KeysLit w.params es.toList
  all : KdAll K a tbl
def kget (tbl : List (Str × Str)) (x : Str) : Option Str := (tbl.find? fun z => decide (z.1 = x)).map (·.2)
theorem kget_at {K : PySem.W.Frag} {a : Addr} {x v : Str} : ∀ {tbl : List (Str × Str)}, KdAll K a tbl → kget tbl x = some v → ∃ t, PySem.W.nsIn K a x = some (some (.str v t))
  | [], _, h => by cases h
  | (y, u) :: r, h1, h => by
    unfold kget at h
    rw [List.find?_cons] at h
    by_cases e : y = x
    · subst e
      simp only [decide_true, Option.map_some, Option.some.injEq] at h
      subst h
      exact h1.1
    · rw [decide_eq_false e] at h
      exact kget_at h1.2 h
theorem KDs.at {K : PySem.W.Frag} {w : World} {a : Addr} {tbl : List (Str × Str)} {x v : Str} (h : KDs K w a tbl) (e : kget tbl x = some v) : KDct K w a x (.str v) := by
  obtain ⟨es, n, h1, h2⟩ := h.ex
  obtain ⟨t, h3⟩ := kget_at h.all e
  exact ⟨es, n, .str v t, h1, h2, h3, t, rfl⟩
end DL
namespace DL
open PySem PySem.Spec PyProof.Rows L2 Evl
end DL
namespace DL
open PySem PySem.Spec PyProof.Rows L2 Evl
abbrev OE := DS → (OD → Prop) → Prop
abbrev OA := DS → (List OD → Prop) → Prop
abbrev FO := List D → (OD → Prop) → Prop
def Fresh (B : Bx) (H : Hp) (f : List Addr) : Prop := f.Nodup ∧ ∀ p ∈ f, H p = none ∧ B.nb p
def liftW (K : PySem.W.Frag) (B : Bx) (r : OE) : TE := fun σ H P => ∃ (H0 G : Hp) (δ : DS) (Q : OD → Prop), Jn K B G H ∧ StOk K B H0 G H σ δ ∧ r δ Q ∧ ∀ o v f G2 H2, Q o → Gr K B G H G2 H2 → Own K B G2 H2 v o f → Fresh B H f → P v H2
def liftWA (K : PySem.W.Frag) (B : Bx) (r : OA) : TA := fun σ H P => ∃ (H0 G : Hp) (δ : DS) (Q : List OD → Prop), Jn K B G H ∧ StOk K B H0 G H σ δ ∧ r δ Q ∧ ∀ os vs f G2 H2, Q os → Gr K B G H G2 H2 → Owns K B G2 H2 vs os f → Fresh B H f → P vs H2
abbrev PO (X : Cx) (B : Bx) (e : Expr) (r : OE) : Prop := PE X e (liftW X.K B r)
abbrev PAO (X : Cx) (B : Bx) (es : List Expr) (r : OA) : Prop := PA X es (liftWA X.K B r)
section
variable {K : PySem.W.Frag} {B : Bx} {G H G2 H2 : Hp}
theorem Gr.kept (g : Gr K B G H G2 H2) {f : List Addr} (h : ∀ p ∈ f, Mu H p ∧ B.nb p) : Kept G H G2 H2 f := fun p hp => by
  refine ⟨?_, g.old p (h p hp).1⟩
  cases q : H p with
  | none => exact absurd q (h p hp).1.ne
  | some o => exact g.keep p o (h p hp).2 q
theorem Own.gr {v : V} {o : OD} {f : List Addr} (h : Own K B G H v o f) (g : Gr K B G H G2 H2) (hf : ∀ p ∈ f, B.nb p) : Own K B G2 H2 v o f := h.keep g.ex (g.kept fun p hp => ⟨(h.node p hp).at, hf p hp⟩)
theorem Owns.gr {v : List V} {o : List OD} {f : List Addr} (h : Owns K B G H v o f) (g : Gr K B G H G2 H2) (hf : ∀ p ∈ f, B.nb p) : Owns K B G2 H2 v o f := h.keep g.ex (g.kept fun p hp => ⟨(h.node p hp).at, hf p hp⟩)
theorem Fresh.nil : Fresh B H [] := ⟨List.nodup_nil, fun p hp => nomatch hp⟩
theorem Fresh.back {G0 H0 : Hp} {f : List Addr} (h : Fresh B H f) (g : Gr K B G0 H0 G H) : Fresh B H0 f := ⟨h.1, fun p hp => ⟨g.free (h.2 p hp).1, (h.2 p hp).2⟩⟩
/-- first ones, then others -/
theorem Fresh.app {v : V} {o : OD} {f f2 : List Addr} (h : Fresh B H f) (ow : Own K B G2 H2 v o f) (g : Gr K B G H G2 H2) (h2 : Fresh B H2 f2) : Fresh B H (f ++ f2) := by
  refine ⟨List.nodup_append.mpr ⟨h.1, h2.1, fun a ha b hb e => ?_⟩, fun p hp => (List.mem_append.mp hp).elim (h.2 p) fun z => ⟨g.free (h2.2 p z).1, (h2.2 p z).2⟩⟩
  subst e
  exact (ow.node a ha).at.ne (h2.2 a hb).1
end
section
variable {X : Cx} {B : Bx} {e : Expr} {es : List Expr} {r : DE} {ra : DA} {ro : OE} {rao : OA} {pos : Pos}
def oD (r : DE) : OE := fun δ Q => r δ fun d => Q (.sh d)
def oF (ra : DA) : OE := fun δ Q => ra δ fun ds => Q (.lst (ds.map .sh))
theorem po_d (h : PD X B e r) : PO X B e (oD r) := pe_mono h fun σ H P q => by
  obtain ⟨H0, G, δ, Q, j, st, hr, k⟩ := q
  exact ⟨H0, G, δ, _, j, st, hr, fun d v G2 H2 q2 g2 h2 => k _ v [] G2 H2 q2 g2 (.sh h2) Fresh.nil⟩
theorem po_f (h : PF X B e ra) : PO X B e (oF ra) := pe_mono h fun σ H P q => by
  obtain ⟨H0, G, δ, Q, j, st, hr, k⟩ := q
  refine ⟨H0, G, δ, _, j, st, hr, fun ds p vs G2 H2 q2 g2 hp gp h2 hd => k _ _ [p] G2 H2 q2 g2 (.lst h2 gp (Owns.of hd)) ⟨List.nodup_cons.mpr ⟨List.not_mem_nil, List.nodup_nil⟩, fun q hq => ?_⟩⟩
  cases List.mem_singleton.mp hq
  exact ⟨hp, Gr.neB j hp⟩
def oNil : OA := fun _ Q => Q []
def oCons (r : OE) (ra : OA) : OA := fun δ Q => r δ fun x => ra δ fun xs => Q (x :: xs)
theorem pao_nil : PAO X B [] oNil := pa_mono pa_nil fun σ H P q => by
  obtain ⟨H0, G, δ, Q, j, st, hr, k⟩ := q
  exact k [] [] [] G H hr (Gr.refl j) .nil Fresh.nil
theorem pao_cons (h : PO X B e ro) (ha : PAO X B es rao) (hs : starEach (e :: es) X.env = (false, eval e X.env) :: starEach es X.env := by rfl) : PAO X B (e :: es) (oCons ro rao) := pa_mono (pa_cons h ha hs) fun σ H P q => by
  obtain ⟨H0, G, δ, Q, j, st, hr, k⟩ := q
  refine ⟨H0, G, δ, _, j, st, hr, fun o v f G2 H2 q2 g2 h2 f2 => ?_⟩
  refine ⟨H0, G2, δ, _, g2.j, st.gr g2, q2, fun os vs f3 G3 H3 q3 g3 h3 f4 => ?_⟩
  exact k _ _ _ G3 H3 q3 (g2.trans g3) (.cons (h2.gr g3 fun p hp => (f2.2 p hp).2) h3) (f2.app h2 g2 f4)
/-- x = e -/
def dSetT (i : Nat) (ro : OE) : DTS := fun W δ => ro δ fun o => ∀ v, W.nx (δ.set i (some (.ow v o)))
theorem psd_setT {i : Nat} {x : Str} {pos' : Pos} (hN : X.N.Nodup) (hi : X.N[i]? = some x) (hx : Loc X.env.scope x) (he : PO X B e ro) (hs : swapsWith e (some (.Name x pos')) pos.line X.env = pure false := by rfl) (hf : X.fn x = true ∨ X.env.scope.names.lookup x = some .local := by first | exact .inl rfl | exact .inr rfl | assumption) :
    PSD X B (.Assign [.Name x pos'] e pos) (dSetT i ro) := ps_mono (ps_set hN hi hx he hs hf) fun E σ H q => by
  obtain ⟨G0, H0, G, δ, W, g0, s, h, k⟩ := q
  refine ⟨H0, G, δ, _, g0.j, s, h, fun o v f G2 H2 q2 g2 h2 f2 => ?_⟩
  exact k.nx _ _ _ _ (q2 v) (g0.trans g2) g2.ex (s.setO g2 h2 f2.1 fun p hp => ⟨(f2.2 p hp).1, g0.free (f2.2 p hp).1, (f2.2 p hp).2⟩)
end
end DL
namespace DL
open PySem PySem.Spec PyProof.Rows L2 Evl
section
variable {X : Cx} {B : Bx} {e : Expr} {r : DE} {t : DT} {pos : Pos}
theorem unlock_all {pins : List (Addr × Obj)} {σ : L2.St} {s : Shared} {H L : Hp} : ∀ (f : List Addr) {H2 : Hp}, Inv X pins σ H2 s → f.Nodup → (∀ p ∈ f, (∃ vs, H p = some (.lst vs) ∧ L p = some (.lst vs)) ∨ ∃ u od, H p = some u ∧ L p = some (.frz od u)) → (∀ p ∈ f, H2 p = L p) → (∀ p ∈ f, ∀ o' u', X.H_0 p ≠ some (.frz o' u')) →
    ∃ U, Inv X pins σ U s ∧ (∀ p ∈ f, U p = H p) ∧ ∀ p, p ∉ f → U p = H2 p
  | [], H2, I, _, _, _, _ => ⟨H2, I, fun _ z => (nomatch z), fun _ _ => rfl⟩
  | p :: f, H2, I, nd, hk, h2, nf => by
    have hp : p ∉ f := (List.nodup_cons.mp nd).1
    obtain ⟨U, I1, u1, u2⟩ := unlock_all f I (List.nodup_cons.mp nd).2 (fun q hq => hk q (List.mem_cons_of_mem _ hq)) (fun q hq => h2 q (List.mem_cons_of_mem _ hq)) fun q hq => nf q (List.mem_cons_of_mem _ hq)
    have e1 : U p = L p := (u2 p hp).trans (h2 p List.mem_cons_self)
    rcases hk p List.mem_cons_self with ⟨vs, a, b⟩ | ⟨u, od, a, b⟩
    · refine ⟨U, I1, fun q hq => ?_, fun q hq => u2 q fun z => hq (List.mem_cons_of_mem _ z)⟩
      rcases List.mem_cons.mp hq with rfl | hq
      · rw [e1, b, a]
      · exact u1 q hq
    · refine ⟨_, I1.unlock (e1.trans b) (nf p List.mem_cons_self), fun q hq => ?_, fun q hq => ?_⟩
      · by_cases e : q = p
        · subst e
          rw [upd_same, a]
        · rw [upd_ne e]
          exact u1 q ((List.mem_cons.mp hq).resolve_left e)
      · rw [upd_ne fun e => hq (by rw [e]; exact List.mem_cons_self)]
        exact u2 q fun z => hq (List.mem_cons_of_mem _ z)
theorem lkd_kinds {G H L : Hp} {f : List Addr} (l : Lkd H L f) (h : ∀ p ∈ f, Node G H p) : ∀ p ∈ f, (∃ vs, H p = some (.lst vs) ∧ L p = some (.lst vs)) ∨ ∃ u od, H p = some u ∧ L p = some (.frz od u) := fun p hp => by
  rcases (h p hp).2 with ⟨vs, a⟩ | ⟨vs, a⟩ | ⟨vs, a⟩
  · exact .inl ⟨vs, a, l.lst p vs a⟩
  · obtain ⟨od, b⟩ := l.dK p vs hp a
    exact .inr ⟨_, od, a, b⟩
  · obtain ⟨od, b⟩ := l.dT p vs hp a
    exact .inr ⟨_, od, a, b⟩
theorem bor_core {pins : List (Addr × Obj)} {σ : L2.St} {s : Shared} {H0 G H : Hp} {δ : DS} {i : Nat} {v : V} {o : OD} (I : Inv X pins σ H s) (j : Jn X.K B G H) (st : StOk X.K B H0 G H σ δ) (h1 : δ[i]? = some (some (.ow v o))) :
    ∃ G1 L, Inv X pins σ L s ∧ Jn X.K B G1 L ∧ StOk X.K B H0 G1 L σ (δ.set i (some (.sh o.toD))) ∧ ∀ s2 G2 H2, Inv X pins σ H2 s2 → Gr X.K B G1 L G2 H2 → ∃ U G3, Inv X pins σ U s2 ∧ Gr X.K B G H G3 U := by
  obtain ⟨F, y⟩ := st.ex
  obtain ⟨e1, e2, e3, e4⟩ := y.ow h1
  obtain ⟨L, I2, l⟩ := lock_all (F i) I e3
  have hG : ∀ p ∈ F i, G p = none := fun p hp => (e2.node p hp).1
  have ex := frz_ex (G := G) (H := L) hG
  have nb : B.b ∉ F i := fun z => (e4 _ z).2.1.1 rfl
  have kinds := lkd_kinds l fun p hp => e2.node p hp
  have nf : ∀ p ∈ F i, ∀ o' u', X.H_0 p ≠ some (.frz o' u') := fun p hp => by
    rcases (e2.node p hp).2 with ⟨vs, a⟩ | ⟨vs, a⟩ | ⟨vs, a⟩
    · exact I.nofrz a trivial
    · exact I.nofrz a trivial
    · exact I.nofrz a trivial
  have nn : ∀ a, ¬ B.nb a → a ∉ F i := fun a n z => n (e4 a z).2
  have xt : Xt B (frzG G L (F i)) L := j.next ex (fun a o n h => (l.out a (nn a n)).trans h) (fun a n _ => by unfold frzG; rw [if_neg (nn a n)]) (fun t h _ => by
    have nt : t.1 ∉ F i := fun z => (e4 _ z).2.tab t h rfl
    exact ⟨l.out _ nt, fun z => by unfold frzG; rw [if_neg nt]; exact z⟩) (fun a ps h => by
    by_cases ha : a ∈ F i
    · rcases kinds a ha with ⟨vs, _, b⟩ | ⟨u, od, _, b⟩ <;> rw [b] at h <;> cases h
    · rw [l.out a ha] at h
      exact ⟨_, h⟩)
  refine ⟨frzG G L (F i), L, I2, ⟨fun a u h => ?_, ?_, ?_, xt⟩, ?_, fun s2 G2 H2 J g => ?_⟩
  · unfold frzG at h
    split at h
    · exact h
    · rename_i hn
      rw [l.out a hn]
      exact j.ex a u h
  · unfold frzG
    rw [if_neg nb]
    exact j.no
  · obtain ⟨a, b, c, ns, h1, h2, h3⟩ := j.bag
    exact ⟨a, b, c, ns, by rw [l.out _ nb]; exact h1, ex_l ex h2, h3⟩
  · have s3 := y.put (i := i) (List.getElem?_eq_some_iff.mp e1).1 ex (H2 := L) (fun p _ _ hp => ⟨l.out p hp, by unfold frzG; rw [if_neg hp]⟩) (.sh (e2.dat hG l fun p hp => hp)) fun p hp => nomatch hp
    rw [set_same e1] at s3
    exact ⟨_, s3⟩
  · have h2 : ∀ p ∈ F i, H2 p = L p := fun p hp => by
      rcases kinds p hp with ⟨vs, _, b⟩ | ⟨u, od, _, b⟩
      · rw [b]; exact g.keep p _ (e4 p hp).2 b
      · rw [b]; exact g.keep p _ (e4 p hp).2 b
    obtain ⟨U, J2, u1, u2⟩ := unlock_all (H := H) (L := L) (F i) J e3 kinds h2 nf
    refine ⟨U, codG G G2, J2, Gr.back j g ex l.out (fun p hp => ?_) (fun p hp => (e4 p hp).2) hG u1 u2⟩
    rw [h2 p hp]
    rcases kinds p hp with ⟨vs, _, b⟩ | ⟨u, od, _, b⟩
    · exact ⟨_, b, ncod (nl rfl)⟩
    · exact ⟨_, b, ncod (nl rfl)⟩
def tBor (i : Nat) (t : DT) : DT := fun δ Q => ownO δ[i]? fun _ o => t (δ.set i (some (.sh o.toD))) Q
theorem ptd_bor (i : Nat) (h : PTD X B e t) : PTD X B e (tBor i t) := ⟨fun pins s σ H P I q => by
  obtain ⟨H0, G, δ, Q, j, st, hr, k⟩ := q
  have hr : ownO δ[i]? fun _ o => t (δ.set i (some (.sh o.toD))) Q := hr
  unfold ownO at hr
  split at hr
  · rename_i v o h1
    obtain ⟨G1, L, I2, j1, s1, back⟩ := bor_core I j st h1
    refine thn (h.run pins s σ L (fun b H2 => ∃ G2, Q b ∧ Gr X.K B G1 L G2 H2) I2 ⟨H0, G1, _, Q, j1, s1, hr, fun b G2 H2 q2 g2 => ⟨G2, q2, g2⟩⟩) fun b s2 ⟨H2, J, G2, q2, g2⟩ => ?_
    obtain ⟨U, G3, J2, g3⟩ := back s2 G2 H2 J g2
    exact ⟨U, J2, k b G3 U q2 g3⟩
  · exact hr.elim⟩
def scal : D → Bool
  | .non => true
  | .bl _ => true
  | .int _ => true
  | .str _ => true
  | _ => false
theorem scal_dat {K : PySem.W.Frag} {G G2 : Hp} {v : V} {d : D} (h : Dat K B G v d) (s : scal d = true) : Dat K B G2 v d := by
  cases h with
  | non => exact .non
  | bl b => exact .bl b
  | int i => exact .int i
  | str x => exact .str x
  | _ => cases s
theorem z_tBor {δ : DS} {i : Nat} {Q : Bool → Prop} : tBor i t δ Q = ownO δ[i]? fun _ o => t (δ.set i (some (.sh o.toD))) Q := propext Iff.rfl
end
def getO : OD → List Nat → Option OD
  | o, [] => some o
  | .lst xs, k :: π => match xs[k]? with
    | some x => getO x π
    | none => none
  | .dic _ ks, k :: π => match ks[k]? with
    | some z => getO z.2 π
    | none => none
  | .sh _, _ :: _ => none
def setO : OD → List Nat → OD → OD
  | _, [], s => s
  | .lst xs, k :: π, s => match xs[k]? with
    | some x => .lst (xs.set k (setO x π s))
    | none => .lst xs
  | .dic t ks, k :: π, s => match ks[k]? with
    | some z => .dic t (ks.set k (z.1, setO z.2 π s))
    | none => .dic t ks
  | .sh d, _ :: _, _ => .sh d
def locV (H : Hp) : V → List Nat → Option V
  | v, [] => some v
  | .ref p, k :: π => match H p with
    | some (.lst vs) => match vs[k]? with
      | some u => locV H u π
      | none => none
    | some (.dK vs) => match vs[k]? with
      | some u => locV H u.2 π
      | none => none
    | some (.dT vs) => match vs[k]? with
      | some u => locV H u.2 π
      | none => none
    | _ => none
  | _, _ :: _ => none
section
variable {K : PySem.W.Frag} {B : Bx} {G H : Hp}
theorem Owns.at : ∀ {vs : List V} {xs : List OD} {f : List Addr} {k : Nat} {x : OD}, Owns K B G H vs xs f → xs[k]? = some x → ∃ u f1 fk f2, vs[k]? = some u ∧ f = f1 ++ (fk ++ f2) ∧ Own K B G H u x fk ∧
    ∀ {G2 H2 : Hp} {x' : OD} {u' : V} {fk' : List Addr}, Ex G G2 → Kept G H G2 H2 f1 → Kept G H G2 H2 f2 → Own K B G2 H2 u' x' fk' → Owns K B G2 H2 (vs.set k u') (xs.set k x') (f1 ++ (fk' ++ f2))
  | _, _, _, 0, _, .cons (v := v) (f := f) (g := g) h t, e => by
    cases e
    exact ⟨v, [], f, g, rfl, rfl, h, fun ex _ k2 h2 => by rw [List.nil_append]; exact .cons h2 (t.keep ex k2)⟩
  | _, _, _, k + 1, x, .cons (v := v) (f := f) (vs := vs) (os := os) h t, e => by
    obtain ⟨u, f1, fk, f2, a1, a2, a3, a4⟩ := Owns.at (k := k) (x := x) t e
    refine ⟨u, f ++ f1, fk, f2, a1, by rw [a2, List.append_assoc], a3, fun ex k1 k2 h2 => ?_⟩
    have z := Owns.cons (h.keep ex k1.l) (a4 ex k1.r k2 h2)
    rw [List.append_assoc]
    exact z
theorem OwnK.at : ∀ {vs : List (Key × V)} {xs : List (D × OD)} {f : List Addr} {k : Nat} {d : D} {x : OD}, OwnK K B G H vs xs f → xs[k]? = some (d, x) → ∃ key u f1 fk f2, vs[k]? = some (key, u) ∧ f = f1 ++ (fk ++ f2) ∧ Own K B G H u x fk ∧ ((∃ i, key = .inl i ∧ d = .int i) ∨ ∃ s, key = .inr s ∧ d = .str s) ∧
    ∀ {G2 H2 : Hp} {x' : OD} {u' : V} {fk' : List Addr}, Ex G G2 → Kept G H G2 H2 f1 → Kept G H G2 H2 f2 → Own K B G2 H2 u' x' fk' → OwnK K B G2 H2 (vs.set k (key, u')) (xs.set k (d, x')) (f1 ++ (fk' ++ f2))
  | _, _, _, 0, _, _, .consI (i := i) (v := v) (f := f) (g := g) h t, e => by
    cases e
    exact ⟨_, v, [], f, g, rfl, rfl, h, .inl ⟨i, rfl, rfl⟩, fun ex _ k2 h2 => by rw [List.nil_append]; exact .consI h2 (t.keep ex k2)⟩
  | _, _, _, 0, _, _, .consS (x := i) (v := v) (f := f) (g := g) h t, e => by
    cases e
    exact ⟨_, v, [], f, g, rfl, rfl, h, .inr ⟨i, rfl, rfl⟩, fun ex _ k2 h2 => by rw [List.nil_append]; exact .consS h2 (t.keep ex k2)⟩
  | _, _, _, k + 1, d, x, .consI (i := i) (v := v) (f := f) h t, e => by
    obtain ⟨key, u, f1, fk, f2, a1, a2, a3, a5, a4⟩ := OwnK.at (k := k) (d := d) (x := x) t e
    refine ⟨key, u, f ++ f1, fk, f2, a1, by rw [a2, List.append_assoc], a3, a5, fun ex k1 k2 h2 => ?_⟩
    have z := OwnK.consI (i := i) (h.keep ex k1.l) (a4 ex k1.r k2 h2)
    rw [List.append_assoc]
    exact z
  | _, _, _, k + 1, d, x, .consS (x := i) (v := v) (f := f) h t, e => by
    obtain ⟨key, u, f1, fk, f2, a1, a2, a3, a5, a4⟩ := OwnK.at (k := k) (d := d) (x := x) t e
    refine ⟨key, u, f ++ f1, fk, f2, a1, by rw [a2, List.append_assoc], a3, a5, fun ex k1 k2 h2 => ?_⟩
    have z := OwnK.consS (x := i) (h.keep ex k1.l) (a4 ex k1.r k2 h2)
    rw [List.append_assoc]
    exact z
theorem OwnT.at : ∀ {vs : List (List Key × V)} {xs : List (D × OD)} {f : List Addr} {k : Nat} {d : D} {x : OD}, OwnT K B G H vs xs f → xs[k]? = some (d, x) → ∃ key u f1 fk f2, vs[k]? = some (key, u) ∧ f = f1 ++ (fk ++ f2) ∧ Own K B G H u x fk ∧ d = embT key ∧
    ∀ {G2 H2 : Hp} {x' : OD} {u' : V} {fk' : List Addr}, Ex G G2 → Kept G H G2 H2 f1 → Kept G H G2 H2 f2 → Own K B G2 H2 u' x' fk' → OwnT K B G2 H2 (vs.set k (key, u')) (xs.set k (d, x')) (f1 ++ (fk' ++ f2))
  | _, _, _, 0, _, _, .cons (k := i) (v := v) (f := f) (g := g) h t, e => by
    cases e
    exact ⟨_, v, [], f, g, rfl, rfl, h, rfl, fun ex _ k2 h2 => by rw [List.nil_append]; exact .cons h2 (t.keep ex k2)⟩
  | _, _, _, k + 1, d, x, .cons (k := i) (v := v) (f := f) h t, e => by
    obtain ⟨key, u, f1, fk, f2, a1, a2, a3, a5, a4⟩ := OwnT.at (k := k) (d := d) (x := x) t e
    refine ⟨key, u, f ++ f1, fk, f2, a1, by rw [a2, List.append_assoc], a3, a5, fun ex k1 k2 h2 => ?_⟩
    have z := OwnT.cons (k := i) (h.keep ex k1.l) (a4 ex k1.r k2 h2)
    rw [List.append_assoc]
    exact z
theorem set_get {α : Type} : ∀ {l : List α} {k : Nat} {a : α}, l[k]? = some a → l.set k a = l
  | _ :: _, 0, _, e => by cases e; rfl
  | x :: l, k + 1, a, e => by rw [List.set_cons_succ, set_get (l := l) (k := k) (a := a) e]
/-- the part's own places replaced within all of them -/
theorem nodup_mid {p : Addr} {f1 fk f2 fk' : List Addr} {fs : List Addr} (nd : (p :: (f1 ++ (fk ++ f2))).Nodup) (nk : fk'.Nodup) (h : ∀ q ∈ fk', q ∈ fs ∨ q ∈ fk) (hs : ∀ q ∈ fs, q ∈ fk ∨ q ∉ (p :: (f1 ++ (fk ++ f2)))) : (p :: (f1 ++ (fk' ++ f2))).Nodup := by
  obtain ⟨n0, n1⟩ := List.nodup_cons.mp nd
  obtain ⟨a1, a2, a3⟩ := List.nodup_append.mp n1
  obtain ⟨b1, b2, b3⟩ := List.nodup_append.mp a2
  have key : ∀ q ∈ fk', q ∈ fk ∨ q ∉ (p :: (f1 ++ (fk ++ f2))) := fun q hq => (h q hq).elim (hs q) .inl
  refine List.nodup_cons.mpr ⟨fun z => ?_, List.nodup_append.mpr ⟨a1, List.nodup_append.mpr ⟨nk, b2, fun x hx y hy e => ?_⟩, fun x hx y hy e => ?_⟩⟩
  · rcases List.mem_append.mp z with z | z
    · exact n0 (List.mem_append_left _ z)
    · rcases List.mem_append.mp z with z | z
      · rcases key p z with q | q
        · exact n0 (List.mem_append_right _ (List.mem_append_left _ q))
        · exact q List.mem_cons_self
      · exact n0 (List.mem_append_right _ (List.mem_append_right _ z))
  · subst e
    rcases key x hx with q | q
    · exact b3 x q x hy rfl
    · exact q (List.mem_cons_of_mem _ (List.mem_append_right _ (List.mem_append_right _ hy)))
  · subst e
    rcases List.mem_append.mp hy with hy | hy
    · rcases key x hy with q | q
      · exact a3 x hx x (List.mem_append_left _ q) rfl
      · exact q (List.mem_cons_of_mem _ (List.mem_append_left _ hx))
    · exact a3 x hx x (List.mem_append_right _ hy) rfl
def Focus (K : PySem.W.Frag) (B : Bx) (G H : Hp) (v : V) (o : OD) (f : List Addr) (π : List Nat) (s : OD) : Prop :=
  ∃ u fs, locV H v π = some u ∧ Own K B G H u s fs ∧ fs.Nodup ∧ (∀ p ∈ fs, p ∈ f) ∧
    ∀ {G2 H2 : Hp} {s' : OD} {fs' : List Addr}, Ex G G2 → (∀ p ∈ f, p ∉ fs → H2 p = H p ∧ G2 p = G p) → Own K B G2 H2 u s' fs' → fs'.Nodup → (∀ p ∈ fs', p ∈ fs ∨ p ∉ f) → ∃ f', Own K B G2 H2 v (setO o π s') f' ∧ f'.Nodup ∧ ∀ p ∈ f', p ∈ fs' ∨ p ∈ f
theorem focus : ∀ (π : List Nat) {v : V} {o s : OD} {f : List Addr}, Own K B G H v o f → f.Nodup → getO o π = some s → Focus K B G H v o f π s
  | [], v, o, s, f, h, nd, e => by
    have e : some o = some s := by cases o <;> exact e
    cases e
    exact ⟨v, f, (by cases v <;> rfl), h, nd, fun p hp => hp, fun {G2 H2 s' fs'} _ _ h2 n2 h3 => ⟨fs', (by have : setO o [] s' = s' := (by cases o <;> rfl); rw [this]; exact h2), n2, fun p hp => .inl hp⟩⟩
  | k :: π, _, .sh _, s, f, h, nd, e => nomatch e
  | k :: π, _, .lst xs, s, _, .lst (p := p) (vs := vs) (f := f) a1 a2 a3, nd, e => by
    have e : (match xs[k]? with | some x => getO x π | none => none) = some s := e
    cases hx : xs[k]? with
    | none => rw [hx] at e; cases e
    | some x =>
      rw [hx] at e
      obtain ⟨u, f1, fk, f2, b1, b2, b3, b4⟩ := a3.at hx
      subst b2
      have nk : fk.Nodup := (List.nodup_append.mp (List.nodup_append.mp (List.nodup_cons.mp nd).2).2.1).1
      obtain ⟨w, fs, c1, c2, c3, c4, c5⟩ := focus π b3 nk e
      refine ⟨w, fs, ?_, c2, c3, fun q hq => List.mem_cons_of_mem _ (List.mem_append_right _ (List.mem_append_left _ (c4 q hq))), fun {G2 H2 s' fs'} ex kp h2 n2 h3 => ?_⟩
      · show (match H p with | some (.lst vs) => _ | some (.dK vs) => _ | some (.dT vs) => _ | _ => none) = _
        rw [a1]
        show (match vs[k]? with | some u => locV H u π | none => none) = _
        rw [b1]
        exact c1
      · have dis : ∀ q, q ∈ fs → q ≠ p ∧ q ∉ f1 ∧ q ∉ f2 := fun q hq => by
          have hk := c4 q hq
          obtain ⟨n0, n1⟩ := List.nodup_cons.mp nd
          obtain ⟨_, m2, m3⟩ := List.nodup_append.mp n1
          obtain ⟨_, _, m4⟩ := List.nodup_append.mp m2
          exact ⟨fun z => n0 (by rw [← z]; exact List.mem_append_right _ (List.mem_append_left _ hk)), fun z => m3 q z q (List.mem_append_left _ hk) rfl, fun z => m4 q hk q z rfl⟩
        obtain ⟨fk', d1, d2, d3⟩ := c5 ex (fun q hq hn => kp q (List.mem_cons_of_mem _ (List.mem_append_right _ (List.mem_append_left _ hq))) hn) h2 n2 fun q hq => (h3 q hq).imp id fun z z2 => z (List.mem_cons_of_mem _ (List.mem_append_right _ (List.mem_append_left _ z2)))
        have k1 : Kept G H G2 H2 f1 := fun q hq => kp q (List.mem_cons_of_mem _ (List.mem_append_left _ hq)) fun z => (dis q z).2.1 hq
        have k2 : Kept G H G2 H2 f2 := fun q hq => kp q (List.mem_cons_of_mem _ (List.mem_append_right _ (List.mem_append_right _ hq))) fun z => (dis q z).2.2 hq
        have k0 := kp p List.mem_cons_self fun z => (dis p z).1 rfl
        have z := b4 ex k1 k2 d1
        rw [set_get b1] at z
        refine ⟨p :: (f1 ++ (fk' ++ f2)), ?_, nodup_mid nd d2 d3 fun q hq => (h3 q hq).imp (c4 q) id, fun q hq => ?_⟩
        · have es : setO (.lst xs) (k :: π) s' = .lst (xs.set k (setO x π s')) := by
            show (match xs[k]? with | some x => OD.lst (xs.set k (setO x π s')) | none => OD.lst xs) = _
            rw [hx]
          rw [es]
          exact .lst (k0.1.trans a1) (k0.2.trans a2) z
        · rcases List.mem_cons.mp hq with rfl | hq
          · exact .inr List.mem_cons_self
          · rcases List.mem_append.mp hq with hq | hq
            · exact .inr (List.mem_cons_of_mem _ (List.mem_append_left _ hq))
            · rcases List.mem_append.mp hq with hq | hq
              · exact (d3 q hq).imp id fun z => List.mem_cons_of_mem _ (List.mem_append_right _ (List.mem_append_left _ z))
              · exact .inr (List.mem_cons_of_mem _ (List.mem_append_right _ (List.mem_append_right _ hq)))
  | k :: π, _, .dic false xs, s, _, .dK (p := p) (kvs := vs) (f := f) a1 a2 a3, nd, e => by
    have e : (match xs[k]? with | some x => getO x.2 π | none => none) = some s := e
    cases hx : xs[k]? with
    | none => rw [hx] at e; cases e
    | some x =>
      obtain ⟨kd, x⟩ := x
      rw [hx] at e
      obtain ⟨key, u, f1, fk, f2, b1, b2, b3, _, b4⟩ := a3.at hx
      subst b2
      have nk : fk.Nodup := (List.nodup_append.mp (List.nodup_append.mp (List.nodup_cons.mp nd).2).2.1).1
      obtain ⟨w, fs, c1, c2, c3, c4, c5⟩ := focus π b3 nk e
      refine ⟨w, fs, ?_, c2, c3, fun q hq => List.mem_cons_of_mem _ (List.mem_append_right _ (List.mem_append_left _ (c4 q hq))), fun {G2 H2 s' fs'} ex kp h2 n2 h3 => ?_⟩
      · show (match H p with | some (.lst vs) => _ | some (.dK vs) => _ | some (.dT vs) => _ | _ => none) = _
        rw [a1]
        show (match vs[k]? with | some u => locV H u.2 π | none => none) = _
        rw [b1]
        exact c1
      · have dis : ∀ q, q ∈ fs → q ≠ p ∧ q ∉ f1 ∧ q ∉ f2 := fun q hq => by
          have hk := c4 q hq
          obtain ⟨n0, n1⟩ := List.nodup_cons.mp nd
          obtain ⟨_, m2, m3⟩ := List.nodup_append.mp n1
          obtain ⟨_, _, m4⟩ := List.nodup_append.mp m2
          exact ⟨fun z => n0 (by rw [← z]; exact List.mem_append_right _ (List.mem_append_left _ hk)), fun z => m3 q z q (List.mem_append_left _ hk) rfl, fun z => m4 q hk q z rfl⟩
        obtain ⟨fk', d1, d2, d3⟩ := c5 ex (fun q hq hn => kp q (List.mem_cons_of_mem _ (List.mem_append_right _ (List.mem_append_left _ hq))) hn) h2 n2 fun q hq => (h3 q hq).imp id fun z z2 => z (List.mem_cons_of_mem _ (List.mem_append_right _ (List.mem_append_left _ z2)))
        have k1 : Kept G H G2 H2 f1 := fun q hq => kp q (List.mem_cons_of_mem _ (List.mem_append_left _ hq)) fun z => (dis q z).2.1 hq
        have k2 : Kept G H G2 H2 f2 := fun q hq => kp q (List.mem_cons_of_mem _ (List.mem_append_right _ (List.mem_append_right _ hq))) fun z => (dis q z).2.2 hq
        have k0 := kp p List.mem_cons_self fun z => (dis p z).1 rfl
        have z := b4 ex k1 k2 d1
        rw [set_get b1] at z
        refine ⟨p :: (f1 ++ (fk' ++ f2)), ?_, nodup_mid nd d2 d3 fun q hq => (h3 q hq).imp (c4 q) id, fun q hq => ?_⟩
        · have es : setO (.dic false xs) (k :: π) s' = .dic false (xs.set k (kd, setO x π s')) := by
            show (match xs[k]? with | some x => OD.dic false (xs.set k (x.1, setO x.2 π s')) | none => OD.dic false xs) = _
            rw [hx]
          rw [es]
          exact .dK (k0.1.trans a1) (k0.2.trans a2) z
        · rcases List.mem_cons.mp hq with rfl | hq
          · exact .inr List.mem_cons_self
          · rcases List.mem_append.mp hq with hq | hq
            · exact .inr (List.mem_cons_of_mem _ (List.mem_append_left _ hq))
            · rcases List.mem_append.mp hq with hq | hq
              · exact (d3 q hq).imp id fun z => List.mem_cons_of_mem _ (List.mem_append_right _ (List.mem_append_left _ z))
              · exact .inr (List.mem_cons_of_mem _ (List.mem_append_right _ (List.mem_append_right _ hq)))
  | k :: π, _, .dic true xs, s, _, .dT (p := p) (kvs := vs) (f := f) a1 a2 a3, nd, e => by
    have e : (match xs[k]? with | some x => getO x.2 π | none => none) = some s := e
    cases hx : xs[k]? with
    | none => rw [hx] at e; cases e
    | some x =>
      obtain ⟨kd, x⟩ := x
      rw [hx] at e
      obtain ⟨key, u, f1, fk, f2, b1, b2, b3, _, b4⟩ := a3.at hx
      subst b2
      have nk : fk.Nodup := (List.nodup_append.mp (List.nodup_append.mp (List.nodup_cons.mp nd).2).2.1).1
      obtain ⟨w, fs, c1, c2, c3, c4, c5⟩ := focus π b3 nk e
      refine ⟨w, fs, ?_, c2, c3, fun q hq => List.mem_cons_of_mem _ (List.mem_append_right _ (List.mem_append_left _ (c4 q hq))), fun {G2 H2 s' fs'} ex kp h2 n2 h3 => ?_⟩
      · show (match H p with | some (.lst vs) => _ | some (.dK vs) => _ | some (.dT vs) => _ | _ => none) = _
        rw [a1]
        show (match vs[k]? with | some u => locV H u.2 π | none => none) = _
        rw [b1]
        exact c1
      · have dis : ∀ q, q ∈ fs → q ≠ p ∧ q ∉ f1 ∧ q ∉ f2 := fun q hq => by
          have hk := c4 q hq
          obtain ⟨n0, n1⟩ := List.nodup_cons.mp nd
          obtain ⟨_, m2, m3⟩ := List.nodup_append.mp n1
          obtain ⟨_, _, m4⟩ := List.nodup_append.mp m2
          exact ⟨fun z => n0 (by rw [← z]; exact List.mem_append_right _ (List.mem_append_left _ hk)), fun z => m3 q z q (List.mem_append_left _ hk) rfl, fun z => m4 q hk q z rfl⟩
        obtain ⟨fk', d1, d2, d3⟩ := c5 ex (fun q hq hn => kp q (List.mem_cons_of_mem _ (List.mem_append_right _ (List.mem_append_left _ hq))) hn) h2 n2 fun q hq => (h3 q hq).imp id fun z z2 => z (List.mem_cons_of_mem _ (List.mem_append_right _ (List.mem_append_left _ z2)))
        have k1 : Kept G H G2 H2 f1 := fun q hq => kp q (List.mem_cons_of_mem _ (List.mem_append_left _ hq)) fun z => (dis q z).2.1 hq
        have k2 : Kept G H G2 H2 f2 := fun q hq => kp q (List.mem_cons_of_mem _ (List.mem_append_right _ (List.mem_append_right _ hq))) fun z => (dis q z).2.2 hq
        have k0 := kp p List.mem_cons_self fun z => (dis p z).1 rfl
        have z := b4 ex k1 k2 d1
        rw [set_get b1] at z
        refine ⟨p :: (f1 ++ (fk' ++ f2)), ?_, nodup_mid nd d2 d3 fun q hq => (h3 q hq).imp (c4 q) id, fun q hq => ?_⟩
        · have es : setO (.dic true xs) (k :: π) s' = .dic true (xs.set k (kd, setO x π s')) := by
            show (match xs[k]? with | some x => OD.dic true (xs.set k (x.1, setO x.2 π s')) | none => OD.dic true xs) = _
            rw [hx]
          rw [es]
          exact .dT (k0.1.trans a1) (k0.2.trans a2) z
        · rcases List.mem_cons.mp hq with rfl | hq
          · exact .inr List.mem_cons_self
          · rcases List.mem_append.mp hq with hq | hq
            · exact .inr (List.mem_cons_of_mem _ (List.mem_append_left _ hq))
            · rcases List.mem_append.mp hq with hq | hq
              · exact (d3 q hq).imp id fun z => List.mem_cons_of_mem _ (List.mem_append_right _ (List.mem_append_left _ z))
              · exact .inr (List.mem_cons_of_mem _ (List.mem_append_right _ (List.mem_append_right _ hq)))
end
end DL
namespace DL
open PySem PySem.Spec PyProof.Rows L2 Evl
abbrev DR := DS → (Nat → List Nat → Prop) → Prop
def liftR (K : PySem.W.Frag) (B : Bx) (ρ : DR) : TE := fun σ H P => ∃ (H0 G : Hp) (δ : DS) (Q : Nat → List Nat → Prop), Jn K B G H ∧ StOk K B H0 G H σ δ ∧ ρ δ Q ∧ ∀ i π v0 v G2 H2, Q i π → Gr K B G H G2 H2 → σ[i]? = some (some v0) → locV H2 v0 π = some v → P v H2
abbrev PR (X : Cx) (B : Bx) (e : Expr) (ρ : DR) : Prop := PE X e (liftR X.K B ρ)
def getS (δ : DS) (i : Nat) (π : List Nat) : Option OD := match δ[i]? with
  | some (some (.ow _ o)) => getO o π
  | _ => none
def putS (δ : DS) (i : Nat) (π : List Nat) (s : OD) : DS := match δ[i]? with
  | some (some (.ow v o)) => δ.set i (some (.ow v (setO o π s)))
  | _ => δ
theorem getS_at {δ : DS} {i : Nat} {π : List Nat} {s : OD} (h : getS δ i π = some s) : ∃ v o, δ[i]? = some (some (.ow v o)) ∧ getO o π = some s := by
  unfold getS at h
  split at h
  · exact ⟨_, _, by assumption, h⟩
  · cases h
theorem putS_at {δ : DS} {i : Nat} {π : List Nat} {v : V} {o : OD} (h : δ[i]? = some (some (.ow v o))) (s : OD) : putS δ i π s = δ.set i (some (.ow v (setO o π s))) := by
  unfold putS
  rw [h]
def lstAt (δ : DS) (i : Nat) (π : List Nat) (K : List OD → Prop) : Prop := match getS δ i π with
  | some (.lst xs) => K xs
  | _ => False
theorem lstAt_at {δ : DS} {i : Nat} {π : List Nat} {K : List OD → Prop} (h : lstAt δ i π K) : ∃ xs, getS δ i π = some (.lst xs) ∧ K xs := by
  unfold lstAt at h
  split at h
  · exact ⟨_, by assumption, h⟩
  · exact h.elim
section
variable {K : PySem.W.Frag} {B : Bx} {G H H0 : Hp} {σ : L2.St} {δ : DS}
theorem loc_keep {H2 : Hp} : ∀ (π : List Nat) {v : V} {o s : OD} {f : List Addr}, Own K B G H v o f → getO o π = some s → (∀ p ∈ f, H2 p = H p) → locV H2 v π = locV H v π
  | [], v, _, _, _, _, _, _ => by cases v <;> rfl
  | k :: π, _, .sh _, s, f, h, e, _ => nomatch e
  | k :: π, _, .lst xs, s, _, .lst (p := p) (vs := vs) (f := f) a1 a2 a3, e, hk => by
    have e : (match xs[k]? with | some x => getO x π | none => none) = some s := e
    cases hx : xs[k]? with
    | none => rw [hx] at e; cases e
    | some x =>
      rw [hx] at e
      obtain ⟨u, f1, fk, f2, b1, b2, b3, _⟩ := a3.at hx
      subst b2
      have ih := loc_keep π b3 e fun q hq => hk q (List.mem_cons_of_mem _ (List.mem_append_right _ (List.mem_append_left _ hq)))
      show (match H2 p with | some (.lst vs) => (match vs[k]? with | some u => locV H2 u π | none => none) | some (.dK vs) => _ | some (.dT vs) => _ | _ => none) = (match H p with | some (.lst vs) => (match vs[k]? with | some u => locV H u π | none => none) | some (.dK vs) => _ | some (.dT vs) => _ | _ => none)
      rw [hk p List.mem_cons_self, a1]
      show (match vs[k]? with | some u => locV H2 u π | none => none) = (match vs[k]? with | some u => locV H u π | none => none)
      rw [b1]
      exact ih
  | k :: π, _, .dic false xs, s, _, .dK (p := p) (kvs := vs) (f := f) a1 a2 a3, e, hk => by
    have e : (match xs[k]? with | some x => getO x.2 π | none => none) = some s := e
    cases hx : xs[k]? with
    | none => rw [hx] at e; cases e
    | some x =>
      obtain ⟨kd, x⟩ := x
      rw [hx] at e
      obtain ⟨key, u, f1, fk, f2, b1, b2, b3, _⟩ := a3.at hx
      subst b2
      have ih := loc_keep π b3 e fun q hq => hk q (List.mem_cons_of_mem _ (List.mem_append_right _ (List.mem_append_left _ hq)))
      show (match H2 p with | some (.lst vs) => _ | some (.dK vs) => (match vs[k]? with | some u => locV H2 u.2 π | none => none) | some (.dT vs) => _ | _ => none) = (match H p with | some (.lst vs) => _ | some (.dK vs) => (match vs[k]? with | some u => locV H u.2 π | none => none) | some (.dT vs) => _ | _ => none)
      rw [hk p List.mem_cons_self, a1]
      show (match vs[k]? with | some u => locV H2 u.2 π | none => none) = (match vs[k]? with | some u => locV H u.2 π | none => none)
      rw [b1]
      exact ih
  | k :: π, _, .dic true xs, s, _, .dT (p := p) (kvs := vs) (f := f) a1 a2 a3, e, hk => by
    have e : (match xs[k]? with | some x => getO x.2 π | none => none) = some s := e
    cases hx : xs[k]? with
    | none => rw [hx] at e; cases e
    | some x =>
      obtain ⟨kd, x⟩ := x
      rw [hx] at e
      obtain ⟨key, u, f1, fk, f2, b1, b2, b3, _⟩ := a3.at hx
      subst b2
      have ih := loc_keep π b3 e fun q hq => hk q (List.mem_cons_of_mem _ (List.mem_append_right _ (List.mem_append_left _ hq)))
      show (match H2 p with | some (.lst vs) => _ | some (.dK vs) => _ | some (.dT vs) => (match vs[k]? with | some u => locV H2 u.2 π | none => none) | _ => none) = (match H p with | some (.lst vs) => _ | some (.dK vs) => _ | some (.dT vs) => (match vs[k]? with | some u => locV H u.2 π | none => none) | _ => none)
      rw [hk p List.mem_cons_self, a1]
      show (match vs[k]? with | some u => locV H2 u.2 π | none => none) = (match vs[k]? with | some u => locV H u.2 π | none => none)
      rw [b1]
      exact ih
/-- the place that was told, later: it is where it was, and what stands there may be changed -/
theorem StOk.place {i : Nat} {π : List Nat} {v0 v : V} {s : OD} {G2 H2 : Hp} (st : StOk K B H0 G H σ δ) (hs : getS δ i π = some s) (h0 : σ[i]? = some (some v0)) (hv : locV H v0 π = some v) (g : Gr K B G H G2 H2) :
    ∃ fs, Own K B G2 H2 v s fs ∧ fs.Nodup ∧ (∀ p ∈ fs, H0 p = none ∧ B.nb p) ∧ locV H2 v0 π = some v ∧
      ∀ p ho s' fs', p ∈ fs → Own K B G2 (upd H2 p ho) v s' fs' → fs'.Nodup → (∀ q ∈ fs', q ∈ fs) → StOk K B H0 G2 (upd H2 p ho) σ (putS δ i π s') := by
  obtain ⟨w, o, h1, h2⟩ := getS_at hs
  obtain ⟨F, y⟩ := st.ex
  obtain ⟨e1, e2, e3, e4⟩ := y.ow h1
  rw [h0] at e1
  cases e1
  have y2 := y.gr g
  obtain ⟨e1, c2, _, _⟩ := y2.ow h1
  obtain ⟨u, fs, a1, a2, a3, a4, a5⟩ := focus π c2 e3 h2
  have kp : ∀ p ∈ F i, H2 p = H p := fun p hp => by
    have n := e2.node p hp
    cases q : H p with
    | none => exact absurd q n.at.ne
    | some ob => exact g.keep p ob (e4 p hp).2 q
  have hl := loc_keep (H2 := H2) π e2 h2 kp
  rw [hl, hv] at a1
  cases a1
  refine ⟨fs, a2, a3, fun p hp => e4 p (a4 p hp), hl.trans hv, fun p ho s' fs' hp hw nd hf => ?_⟩
  obtain ⟨f', d1, d2, d3⟩ := a5 (Ex.refl G2) (fun q hq hn => ⟨upd_ne fun z => hn (z ▸ hp), rfl⟩) hw nd fun q hq => .inl (hf q hq)
  rw [putS_at h1]
  have all : ∀ q ∈ f', q ∈ F i := fun q hq => (d3 q hq).elim (fun z => a4 q (hf q z)) id
  have z := y2.put (i := i) (List.getElem?_eq_some_iff.mp e1).1 (Ex.refl G2) (H2 := upd H2 p ho) (fun q _ _ hq => ⟨upd_ne fun e => hq (e ▸ a4 p hp), rfl⟩) (.ow d1 d2 fun q hq => e4 q (all q hq)) fun q hq => .inr (all q hq)
  rw [set_same e1] at z
  exact ⟨_, z⟩
end
section
variable {X : Cx} {B : Bx} {e o i : Expr} {r ri : DE} {ρ : DR} {pos : Pos}
def rVar (i : Nat) : DR := fun δ Q => ownO δ[i]? fun _ _ => Q i []
theorem pr_var {k : Nat} (h : PE X e (tVar k)) : PR X B e (rVar k) := pe_mono h fun σ H P q => by
  obtain ⟨H0, G, δ, Q, j, st, hr, kk⟩ := q
  have hr : ownO δ[k]? fun _ _ => Q k [] := hr
  unfold ownO at hr
  split at hr
  · rename_i v o h1
    obtain ⟨F, y⟩ := st.ex
    have e1 := (y.ow h1).1
    exact ⟨v, e1, kk k [] v v G H hr (Gr.refl j) e1 (by cases v <;> rfl)⟩
  · exact hr.elim
/-- x.append(e), at a place -/
def dAppR (ρ : DR) (r : DE) : DTS := fun W δ => ρ δ fun i π => lstAt δ i π fun xs => r δ fun d => xs.length < sizeLine ∧ W.nx (putS δ i π (.lst (xs ++ [.sh d])))
theorem psd_appR {apos cpos : Pos} (ho : PR X B o ρ) (he : PD X B e r)
    (hbase : attributeBase o "append" X.env (eval o X.env) = eval o X.env := by rfl)
    (hfew : ((backTo cpos (starEach [e] X.env)).all (fun x => !x.1) && (backToKw cpos (keywordEach [] X.env)).all (fun x => x.1.isSome) && decide ([e].length + ([] : List Keyword).length + (if ([] : List Keyword).isEmpty then 0 else 1) < 30)) = true := by rfl)
    (hline : (apos.endLine == cpos.line) = true := by rfl) (hs : starEach [e] X.env = (false, eval e X.env) :: starEach [] X.env := by rfl) (hplain : (backTo cpos (starEach [] X.env)).any (·.1) = false := by rfl)
    (hsw : swapsWith (.Call (.Attribute o "append" apos) [e] [] cpos) none pos.line X.env = pure false := by rfl) :
    PSD X B (.Expr (.Call (.Attribute o "append" apos) [e] [] cpos) pos) (dAppR ρ r) := ps_mono (ps_expr (pe_bm PySem.F.plainAttrs_list PySem.F.slot_list_append PySem.F.type_list_append mt_append ho (pa_cons he pa_nil hs) hbase hfew hline hs hplain) hsw) fun E σ H q => by
  obtain ⟨G0, H0, G, δ, W, g0, st, h, k⟩ := q
  refine ⟨H0, G, δ, _, g0.j, st, h, fun i π v0 v G2 H2 q2 g2 h0 hv => ?_⟩
  obtain ⟨xs, hx, q2⟩ := lstAt_at q2
  obtain ⟨_, a1, _⟩ := (st.gr g2).place hx h0 hv (Gr.refl g2.j)
  cases a1 with
  | @lst p vs _ f b1 b2 b3 =>
    refine ⟨.inl ⟨rfl, vs, sq_of b1⟩, H0, G2, δ, _, g2.j, st.gr g2, q2, fun d u G3 H3 q3 g3 h3 => ?_⟩
    obtain ⟨fs, c1, c2, c3, _, c5⟩ := (st.gr g2).place hx h0 hv g3
    cases c1 with
    | @lst _ vs' _ f' d1 d2 d3 =>
      refine ⟨p, vs', u, rfl, rfl, d1, by rw [d3.len]; exact q3.1, ?_⟩
      have hp := c3 p List.mem_cons_self
      have np := (List.nodup_cons.mp c2).1
      refine k.nx _ _ _ _ q3.2 (((g0.trans g2).trans g3).own hp.1 d2 hp.2) (g2.ex.trans g3.ex) (c5 p _ _ (p :: f') List.mem_cons_self (.lst upd_same d2 ?_) c2 fun q hq => hq)
      have c4 := (d3.past (ho := .lst (vs' ++ [u])) np).append (Owns.cons (H := upd H3 p (.lst (vs' ++ [u]))) (.sh h3) .nil)
      rw [List.append_nil, List.append_nil] at c4
      exact c4
end
end DL
namespace DL
open PySem PySem.Spec PyProof.Rows L2 Evl
section
variable {X : Cx} {B : Bx} {e o a b c : Expr} {es : List Expr} {r ra rb : DE} {pos : Pos} {C k k' i : Nat} {S : FO} {rA : DA} {rao : OA} {m : Str} {g : Addr}
theorem pf_new {K : PySem.W.Frag} {G H G2 H2 : Hp} {p : Addr} {vs : List V} {ds : List D} {P : VK} {Q : List D → Prop} (k : ∀ ds p vs G2 H2, Q ds → Gr K B G H G2 H2 → H p = none → G2 p = none → H2 p = some (.lst vs) → Dats K B G2 vs ds → P (.ref p) H2) (g : Gr K B G H G2 H2) (hp : H2 p = none) (hd : Dats K B G2 vs ds) (q : Q ds) : P (.ref p) (upd H2 p (.lst vs)) :=
  k ds p vs G2 _ q (g.trans (Gr.new0 g.j hp)) (g.free hp) (fresh_back g.j.ex hp) upd_same hd
/-- list(e) -/
def fList (ra : DA) : DA := fun δ Q => ra δ fun ds => match ds with
  | [.lst xs] => Q xs
  | [.tup xs] => Q xs
  | _ => False
theorem pf_list {p : Pos} (hg : Gl X "list") (hm : X.mg "list" = none) (ha : PAD X B [e] rA) (he : starEach [e] X.env = (false, eval e X.env) :: starEach [] X.env := by rfl) (hpl : (backTo pos (starEach [] X.env)).any (·.1) = false := by rfl) :
    PF X B (.Call (.Name "list" p) [e] [] pos) (fList rA) := pe_mono (pe_callTy call_list_of hg hm (by decide +kernel) ha (by decide) (by decide) he hpl) fun σ H P q => by
  obtain ⟨H0, G, δ, Q, j, st, hr, k⟩ := q
  refine ⟨H0, G, δ, _, j, st, hr, fun ds vs G2 H2 q2 g2 h2 => ?_⟩
  cases h2 with
  | nil => exact q2.elim
  | cons h3 h4 =>
    cases h4 with
    | cons _ _ => cases h3 <;> exact q2.elim
    | nil =>
      cases h3 with
      | lst h5 h6 => exact ⟨_, _, rfl, .inl (sq_of (g2.j.ex _ _ h5)), fun p hp => pf_new k g2 hp h6 q2⟩
      | tup h5 h6 => exact ⟨_, _, rfl, .inr (tx g2.j.ex h5), fun p hp => pf_new k g2 hp h6 q2⟩
      | _ => exact q2.elim
def slotOf (v : V) : OD → SD
  | .sh d => .sh d
  | o => .ow v o
theorem st_setF {K : PySem.W.Frag} {H0 G H : Hp} {σ : L2.St} {δ : DS} {i : Nat} {v : V} {o : OD} {f : List Addr} {F : Nat → List Addr} (y : StF K B H0 G H σ δ F) (hw : Own K B G H v o f) (nd : f.Nodup) (hf : ∀ p ∈ f, H0 p = none ∧ B.nb p) (new : ∀ j, j < σ.length → ∀ p ∈ f, p ∉ F j) :
    ∃ F', StF K B H0 G H (σ.set i (some v)) (δ.set i (some (slotOf v o))) F' ∧ ∀ j, j < σ.length → ∀ p ∈ F' j, p ∈ f ∨ p ∈ F j := by
  have key : SlotOk K B H0 G H (some v) (some (slotOf v o)) f := by
    cases o with
    | sh d => cases hw with | sh h => exact .sh h
    | lst xs => exact .ow hw nd hf
    | dic t ks => exact .ow hw nd hf
  by_cases hi : i < σ.length
  · refine ⟨fun j => if j = i then f else F j, ⟨by rw [List.length_set, List.length_set]; exact y.len, fun j uv ud h1 h2 => ?_, fun a b ha hb hab p hp hq => ?_⟩, fun j _ p hp => ?_⟩
    · by_cases hj : i = j
      · subst hj
        rw [List.getElem?_set_self hi] at h1
        rw [List.getElem?_set_self (by rw [← y.len]; exact hi)] at h2
        cases h1
        cases h2
        rw [if_pos rfl]
        exact key
      · rw [List.getElem?_set_ne hj] at h1 h2
        rw [if_neg (Ne.symm hj)]
        exact y.at_ j uv ud h1 h2
    · rw [List.length_set] at ha hb
      by_cases h1 : a = i
      · rw [if_pos h1] at hp
        rw [if_neg fun z => hab (h1.trans z.symm)] at hq
        exact new b hb p hp hq
      · rw [if_neg h1] at hp
        by_cases h2 : b = i
        · rw [if_pos h2] at hq
          exact new a ha p hq hp
        · rw [if_neg h2] at hq
          exact y.dj a b ha hb hab p hp hq
    · have hp : p ∈ (if j = i then f else F j) := hp
      by_cases h : j = i
      · rw [if_pos h] at hp; exact .inl hp
      · rw [if_neg h] at hp; exact .inr hp
  · rw [set_out hi, set_out (by rw [← y.len]; exact hi)]
    exact ⟨F, y, fun j _ p hp => .inr hp⟩
theorem fresh_new {K : PySem.W.Frag} {H0 G H G2 H2 : Hp} {σ : L2.St} {δ : DS} {F : Nat → List Addr} {f : List Addr} (y : StF K B H0 G H σ δ F) (hf : Fresh B H f) : ∀ j, j < σ.length → ∀ p ∈ f, p ∉ F j := fun j hj p hp hq => by
  obtain ⟨ud, hud⟩ : ∃ ud, δ[j]? = some ud := ⟨δ[j]'(by rw [← y.len]; exact hj), List.getElem?_eq_getElem _⟩
  obtain ⟨uv, huv, q⟩ := y.get hud
  exact (q.at p hq).1.ne (hf.2 p hp).1
def dPar3 (i j l : Nat) (ra : OA) : DTS := fun W δ => ra δ fun os => match os with
  | [x, y, z] => ∀ u v w, W.nx (((δ.set i (some (slotOf u x))).set j (some (slotOf v y))).set l (some (slotOf w z)))
  | _ => False
theorem psd_par3 {i j l : Nat} {x y z : Str} {px py pz pt : Pos} {kt k2 pt2} (hc : X.calm = true) (hN : X.N.Nodup) (hi : X.N[i]? = some x) (hj : X.N[j]? = some y) (hl : X.N[l]? = some z) (hij : i ≠ j) (hil : i ≠ l) (hjl : j ≠ l)
    (hx : X.env.scope.names.lookup x = some .local) (hy : X.env.scope.names.lookup y = some .local) (hz : X.env.scope.names.lookup z = some .local) (ha : PAO X B [a, b, c] rao)
    (hw : swappedStores [.Tuple [.Name x px, .Name y py, .Name z pz] kt pt] (.Tuple [a, b, c] k2 pt2) X.env = pure (some [x, y, z]))
    (hs : swapsWithSole [.Tuple [.Name x px, .Name y py, .Name z pz] kt pt] (.Tuple [a, b, c] k2 pt2) pos.line X.env = pure false := by rfl) :
    PSD X B (.Assign [.Tuple [.Name x px, .Name y py, .Name z pz] kt pt] (.Tuple [a, b, c] k2 pt2) pos) (dPar3 i j l rao) := ps_mono (ps_par3 hc hN hi hj hl hij hil hjl hx hy hz ha hw hs) fun E σ H q => by
  obtain ⟨G0, H0, G, δ, W, g, s, h, k⟩ := q
  refine ⟨H0, G, δ, _, g.j, s, h, fun os vs f G2 H2 q2 g2 h2 f2 => ?_⟩
  cases h2 with
  | nil => exact q2.elim
  | @cons v1 o1 f1 _ _ _ h3 h4 =>
    cases h4 with
    | nil => exact q2.elim
    | @cons v2 o2 f2' _ _ _ h5 h6 =>
      cases h6 with
      | nil => exact q2.elim
      | @cons v3 o3 f3' _ _ _ h7 h8 =>
        cases h8 with
        | cons _ _ => exact q2.elim
        | nil =>
          have q2 : ∀ u v w, W.nx (((δ.set i (some (slotOf u o1))).set j (some (slotOf v o2))).set l (some (slotOf w o3))) := q2
          rw [List.append_nil] at f2
          obtain ⟨n1, n2, n3⟩ := List.nodup_append.mp f2.1
          obtain ⟨m1, m2, m3⟩ := List.nodup_append.mp n2
          have a1 : ∀ p ∈ f1, H0 p = none ∧ B.nb p := fun p hp => (f2.back g).2 p (List.mem_append_left _ hp)
          have a2 : ∀ p ∈ f2', H0 p = none ∧ B.nb p := fun p hp => (f2.back g).2 p (List.mem_append_right _ (List.mem_append_left _ hp))
          have a3 : ∀ p ∈ f3', H0 p = none ∧ B.nb p := fun p hp => (f2.back g).2 p (List.mem_append_right _ (List.mem_append_right _ hp))
          obtain ⟨F, y0⟩ := s.ex
          have y2 := y0.gr g2
          have nw := fresh_new (G2 := G2) (H2 := H2) y0 f2
          obtain ⟨F1, y3, s3⟩ := st_setF (i := i) y2 h3 n1 a1 fun l hl p hp => nw l hl p (List.mem_append_left _ hp)
          have y3b : ∀ l, l < (σ.set i (some v1)).length → l < σ.length := fun l hl => by rw [List.length_set] at hl; exact hl
          obtain ⟨F2, y4, s4⟩ := st_setF (i := j) y3 h5 m1 a2 fun l hl p hp hq => by
            rcases s3 l (y3b l hl) p hq with z | z
            · exact n3 p z p (List.mem_append_left _ hp) rfl
            · exact nw l (y3b l hl) p (List.mem_append_right _ (List.mem_append_left _ hp)) z
          obtain ⟨F3, y5, _⟩ := st_setF (i := l) y4 h7 m2 a3 fun l hl p hp hq => by
            rw [List.length_set] at hl
            rcases s4 l hl p hq with z | z
            · exact m3 p z p hp rfl
            · rcases s3 l (y3b l hl) p z with z | z
              · exact n3 p z p (List.mem_append_right _ hp) rfl
              · exact nw l (y3b l hl) p (List.mem_append_right _ (List.mem_append_right _ hp)) z
          exact ⟨_, _, _, rfl, k.nx _ _ G2 H2 (q2 v1 v2 v3) (g.trans g2) g2.ex ⟨F3, y5⟩⟩
end
end DL
namespace DL
open PySem PySem.Spec PyProof.Rows L2 Evl
def dk1 : D → Option Key
  | .int i => some (.inl i)
  | .str x => some (.inr x)
  | _ => none
def dkL : List D → Option (List Key)
  | [] => some []
  | d :: ds => match dk1 d, dkL ds with
    | some k, some ks => some (k :: ks)
    | _, _ => none
def dkT : D → Option (List Key)
  | .tup ds => dkL ds
  | _ => none
theorem dk1_emb (k : Key) : dk1 (embK k) = some k := by cases k <;> rfl
theorem dkL_emb : ∀ k : List Key, dkL (k.map embK) = some k
  | [] => rfl
  | a :: k => by rw [List.map_cons, dkL, dk1_emb, dkL_emb k]
theorem dkT_emb (k : List Key) : dkT (embT k) = some k := dkL_emb k
theorem emb_dk1 {d : D} {k : Key} (h : dk1 d = some k) : d = embK k := by
  cases d with
  | int i => cases h; rfl
  | str x => cases h; rfl
  | _ => cases h
theorem emb_dkL : ∀ {ds : List D} {k : List Key}, dkL ds = some k → ds = k.map embK
  | [], _, h => by cases h; rfl
  | d :: ds, k, h => by
    unfold dkL at h
    cases h1 : dk1 d with
    | none => rw [h1] at h; cases h
    | some a =>
      cases h2 : dkL ds with
      | none => rw [h1, h2] at h; cases h
      | some b =>
        rw [h1, h2] at h
        cases h
        rw [List.map_cons, ← emb_dk1 h1, ← emb_dkL h2]
theorem emb_dkT {d : D} {k : List Key} (h : dkT d = some k) : d = embT k := by
  cases d with
  | tup ds => exact congrArg D.tup (emb_dkL h)
  | _ => cases h
/-- two keys are one -/
def keqD (x y : D) : Bool := match dk1 x, dk1 y with
  | some a, some b => decide (a = b)
  | _, _ => match dkT x, dkT y with
    | some a, some b => decide (a = b)
    | _, _ => false
theorem keqD_K (a b : Key) : keqD (embK a) (embK b) = decide (a = b) := by unfold keqD; rw [dk1_emb, dk1_emb]
theorem keqD_T (a b : List Key) : keqD (embT a) (embT b) = decide (a = b) := by
  unfold keqD
  have h1 : dk1 (embT a) = none := rfl
  rw [h1, dkT_emb, dkT_emb]
section
variable {K : PySem.W.Frag} {B : Bx} {G H : Hp}
theorem keyV {v : V} {y : D} (h : Dat K B G v y) {k : Key} (e : dk1 y = some k) : v = kV k := by
  cases h with
  | int i => cases e; rfl
  | str x => cases e; rfl
  | _ => cases e
theorem keyVs : ∀ {vs : List V} {ds : List D} {k : List Key}, Dats K B G vs ds → dkL ds = some k → vs = k.map kV
  | _, _, _, .nil, e => by cases e; rfl
  | _, _, k, .cons (d := d) (ds := ds) h t, e => by
    unfold dkL at e
    cases h1 : dk1 d with
    | none => rw [h1] at e; cases e
    | some a =>
      cases h2 : dkL ds with
      | none => rw [h1, h2] at e; cases e
      | some b =>
        rw [h1, h2] at e
        cases e
        rw [List.map_cons, keyV h h1, keyVs t h2]
theorem keyT {v : V} {y : D} (h : Dat K B G v y) {k : List Key} (e : dkT y = some k) : ∃ b, v = .ref b ∧ G b = some (.tup (k.map kV)) := by
  cases h with
  | tup h1 h2 => exact ⟨_, rfl, by rw [h1, keyVs h2 e]⟩
  | _ => cases e
theorem OwnK.any {k : Key} : ∀ {vs : List (Key × V)} {xs : List (D × OD)} {f : List Addr}, OwnK K B G H vs xs f → (vs.any fun kv => decide (kv.1 = k)) = xs.any fun z => keqD z.1 (embK k)
  | _, _, _, .nil => rfl
  | _, _, _, .consI (i := i) _ t => by rw [List.any_cons, List.any_cons, OwnK.any t, show (D.int i) = embK (.inl i) from rfl, keqD_K]
  | _, _, _, .consS (x := i) _ t => by rw [List.any_cons, List.any_cons, OwnK.any t, show (D.str i) = embK (.inr i) from rfl, keqD_K]
theorem OwnT.any {k : List Key} : ∀ {vs : List (List Key × V)} {xs : List (D × OD)} {f : List Addr}, OwnT K B G H vs xs f → (vs.any fun kv => decide (kv.1 = k)) = xs.any fun z => keqD z.1 (embT k)
  | _, _, _, .nil => rfl
  | _, _, _, .cons (k := i) _ t => by rw [List.any_cons, List.any_cons, OwnT.any t]; exact congrArg (· || _) (keqD_T i k).symm
theorem OwnK.len : ∀ {vs : List (Key × V)} {xs : List (D × OD)} {f : List Addr}, OwnK K B G H vs xs f → vs.length = xs.length
  | _, _, _, .nil => rfl
  | _, _, _, .consI _ t => by rw [List.length_cons, List.length_cons, OwnK.len t]
  | _, _, _, .consS _ t => by rw [List.length_cons, List.length_cons, OwnK.len t]
theorem OwnT.len : ∀ {vs : List (List Key × V)} {xs : List (D × OD)} {f : List Addr}, OwnT K B G H vs xs f → vs.length = xs.length
  | _, _, _, .nil => rfl
  | _, _, _, .cons _ t => by rw [List.length_cons, List.length_cons, OwnT.len t]
end
end DL
namespace DL
open PySem PySem.Spec PyProof.Rows L2 Evl
def lstL (ds : List D) (Q : List D → Prop) : Prop := match ds with
  | [.lst xs] => Q xs
  | [.tup xs] => Q xs
  | _ => False
section
variable {δ : DS} {Q : D → Prop} {QO : OD → Prop} {QL : List D → Prop} {QOL : List OD → Prop} {QB : Bool → Prop} {QR : Nat → List Nat → Prop} {W : DEnds} {r ra rb ri : DE} {rA : DA} {ro rx ry rz : OE} {rao : OA} {S : FO} {ρ : DR} {i j l n C : Nat} {d : D} {ds xs ys : List D} {os : List OD} {o s : OD} {a b : Int} {π : List Nat} {v : V} {oo : Option SD} {ks : List Str} {t : Bool} {kvs : List (D × OD)}
theorem z_oD : oD r δ QO = r δ fun d => QO (.sh d) := propext Iff.rfl
theorem z_oF : oF rA δ QO = rA δ fun ds => QO (.lst (ds.map .sh)) := propext Iff.rfl
theorem z_oNil : oNil δ QOL = QOL [] := propext Iff.rfl
theorem z_oCons : oCons ro rao δ QOL = ro δ fun x => rao δ fun xs => QOL (x :: xs) := propext Iff.rfl
theorem z_setT : dSetT i ro W δ = ro δ fun o => ∀ v, W.nx (δ.set i (some (.ow v o))) := propext Iff.rfl
theorem z_list : fList rA δ QL = rA δ fun ds => lstL ds QL := propext Iff.rfl
theorem z_listL : lstL [.lst xs] QL = QL xs := propext Iff.rfl
theorem z_listT : lstL [.tup xs] QL = QL xs := propext Iff.rfl
theorem z_par3 : dPar3 i j l (oCons rx (oCons ry (oCons rz oNil))) W δ = rx δ fun x => ry δ fun y => rz δ fun z => ∀ u v w, W.nx (((δ.set i (some (slotOf u x))).set j (some (slotOf v y))).set l (some (slotOf w z))) := propext Iff.rfl
theorem z_sOs : slotOf v (.sh d) = .sh d := rfl
theorem z_sOl : slotOf v (.lst os) = .ow v (.lst os) := rfl
theorem z_sOd : slotOf v (.dic t kvs) = .ow v (.dic t kvs) := rfl
theorem z_rVar : rVar i δ QR = ownO δ[i]? fun _ _ => QR i [] := propext Iff.rfl
theorem z_appR : dAppR ρ r W δ = ρ δ fun i π => lstAt δ i π fun xs => r δ fun d => xs.length < sizeLine ∧ W.nx (putS δ i π (.lst (xs ++ [.sh d]))) := propext Iff.rfl
theorem z_lstA0 {K : List OD → Prop} : lstAt (some (.ow v (.lst os)) :: δ) 0 [] K = K os := propext Iff.rfl
theorem z_lstAS {K : List OD → Prop} : lstAt (oo :: δ) (i + 1) π K = lstAt δ i π K := by unfold lstAt getS; rw [List.getElem?_cons_succ]
theorem z_putS0 : putS (some (.ow v o) :: δ) 0 π s = some (.ow v (setO o π s)) :: δ := rfl
theorem z_putSS : putS (oo :: δ) (i + 1) π s = oo :: putS δ i π s := by
  unfold putS
  rw [List.getElem?_cons_succ]
  split
  · rename_i h
    simp only [h, List.set_cons_succ]
  · rfl
theorem z_setO0 : setO o [] s = s := by cases o <;> rfl
theorem z_lstA1 {K : List OD → Prop} {os2 : List OD} {x : OD} : lstAt (some (.ow v (.lst (.lst os :: os2))) :: δ) 0 [0] K = K os := propext Iff.rfl
theorem z_lstA2 {K : List OD → Prop} {os2 : List OD} {x : OD} : lstAt (some (.ow v (.lst (x :: .lst os :: os2))) :: δ) 0 [1] K = K os := propext Iff.rfl
theorem z_setO1 {os2 : List OD} {x : OD} : setO (.lst (x :: os2)) [0] s = .lst (s :: os2) := by
  show OD.lst ((x :: os2).set 0 (setO x [] s)) = _
  rw [z_setO0]; rfl
theorem z_setO2 {os2 : List OD} {x y : OD} : setO (.lst (x :: y :: os2)) [1] s = .lst (x :: s :: os2) := by
  show OD.lst ((x :: y :: os2).set 1 (setO y [] s)) = _
  rw [z_setO0]; rfl
theorem z_toDs : OD.toD (.sh d) = d := by rw [OD.toD]
theorem z_toDl : OD.toD (.lst os) = .lst (toDs os) := by rw [OD.toD]
theorem z_toDd : OD.toD (.dic t kvs) = .dic (toDk kvs) := by rw [OD.toD]
end
end DL
namespace DL
open PySem PySem.Spec PyProof.Rows L2 Evl
end DL
namespace DL
open PySem PySem.Spec PyProof.Rows L2 Evl
end DL
namespace DL
open PySem PySem.Spec PyProof.Rows L2 Evl
section
variable {K : PySem.W.Frag} {B : Bx} {H0 G H : Hp} {σ : L2.St} {δ : DS} {p : Addr} {o : HO}
theorem StOk.past (x : StOk K B H0 G H σ δ) (hp : H0 p ≠ none) : StOk K B H0 G (upd H p o) σ δ := by
  obtain ⟨F, y⟩ := x.ex
  refine ⟨F, y.len, fun i ov od h1 h2 => ?_, y.dj⟩
  have q := y.at_ i ov od h1 h2
  exact q.keep (Ex.refl G) fun b hb => ⟨upd_ne fun z => hp (by rw [← z]; exact (q.at b hb).2.2.2), rfl⟩
end
end DL
namespace DL
open PySem PySem.Spec PyProof.Rows L2 Evl
theorem pyL_map : ∀ xs : List D, pyL xs = xs.map D.py
  | [] => by rw [pyL]; rfl
  | x :: xs => by rw [pyL, pyL_map xs]; rfl
end DL
namespace DL
open PySem PySem.Spec PyProof.Rows L2 Evl
def isNonD : D → Bool
  | .non => true
  | _ => false
def oIsN (n : Bool) : O2 := fun x y Q => match y with
  | .non => Q (.bl (if n then !isNonD x else isNonD x))
  | _ => False
theorem dat_non {K : PySem.W.Frag} {B : Bx} {G : Hp} {v : V} {d : D} (h : Dat K B G v d) : decide (v = .non) = isNonD d := by
  cases h <;> first | rfl | exact decide_eq_false (by intro z; cases z)
theorem op_isN_d {X : Cx} {B : Bx} : OpR X (compareOp .Is) (rLift X.K B (oIsN false)) := by
  intro pins s σ H x y v u P I rx ry q
  obtain ⟨G, dx, dy, Q, j, hx, hy, hq, k⟩ := q
  cases hy with
  | non =>
    refine op_isN pins s σ H _ _ v u P I rx ry ⟨rfl, ?_⟩
    rw [dat_non hx]
    exact k _ _ G H hq (Gr.refl j) (.bl _)
  | _ => exact hq.elim
section
variable {Q : D → Prop} {x : D} {xs : List D} {fs : List D} {C : Nat}
theorem z_isN : oIsN false x .non Q = Q (.bl (isNonD x)) := propext Iff.rfl
theorem z_notN : oIsN true x .non Q = Q (.bl (!isNonD x)) := propext Iff.rfl
theorem z_nnN : isNonD .non = true := rfl
theorem z_nnT : isNonD (.tup xs) = false := rfl
theorem z_nnL : isNonD (.lst xs) = false := rfl
theorem z_nnO : isNonD (.obj C fs) = false := rfl
end
end DL
namespace DL
open PySem PySem.Spec PyProof.Rows L2 Evl
end DL
namespace DL
open PySem PySem.Spec PyProof.Rows L2 Evl
theorem zGd0 : (type_of% @z_isN) ∧ (type_of% @z_notN) ∧ (type_of% @z_var0) ∧ (type_of% @z_varS) ∧ (type_of% @z_own) ∧ (type_of% @z_c) ∧ (type_of% @z_nil) ∧ (type_of% @z_cons) ∧ (type_of% @z_tup) ∧ (type_of% @z_lst) ∧ (type_of% @z_sz) ∧ (type_of% @z_f) ∧ (type_of% @z_op) ∧ (type_of% @z_un) ∧ (type_of% @z_tBl) ∧ (type_of% @z_bl) ∧ (type_of% @z_tNt) ∧ (type_of% @z_notT) ∧ (type_of% @z_notF) ∧ (type_of% @z_dNt) ∧ (type_of% @z_call) ∧ (type_of% @z_next) ∧ (type_of% @z_seqS) ∧ (type_of% @z_ret) ∧ (type_of% @z_gN) ∧ (type_of% @z_gsNil) ∧ (type_of% @z_gsCons) ∧ (type_of% @z_headL) ∧ (type_of% @z_nilL) ∧ (type_of% @z_gT) ∧ (type_of% @z_tupD) ∧ (type_of% @z_set) ∧ (type_of% @z_own0) ∧ (type_of% @z_ownS) ∧ (type_of% @z_ext) ∧ (type_of% @z_frz) := ⟨@z_isN, @z_notN, @z_var0, @z_varS, @z_own, @z_c, @z_nil, @z_cons, @z_tup, @z_lst, @z_sz, @z_f, @z_op, @z_un, @z_tBl, @z_bl, @z_tNt, @z_notT, @z_notF, @z_dNt, @z_call, @z_next, @z_seqS, @z_ret, @z_gN, @z_gsNil, @z_gsCons, @z_headL, @z_nilL, @z_gT, @z_tupD, @z_set, @z_own0, @z_ownS, @z_ext, @z_frz⟩
theorem zGd1 : (type_of% @z_for) ∧ (type_of% @z_lc) ∧ (type_of% @z_yes) ∧ (type_of% @z_sl) ∧ (type_of% @z_noP) ∧ (type_of% @z_aP) ∧ (type_of% @z_intO) ∧ (type_of% @z_ifS) ∧ (type_of% @iteS_t) ∧ (type_of% @iteS_f) ∧ (type_of% @z_ifE) ∧ (type_of% @iteE_t) ∧ (type_of% @iteE_f) ∧ (type_of% @z_an) ∧ (type_of% @z_or) ∧ (type_of% @anE_t) ∧ (type_of% @anE_f) ∧ (type_of% @orE_t) ∧ (type_of% @orE_f) ∧ (type_of% @z_tan) ∧ (type_of% @z_tor) ∧ (type_of% @anT_t) ∧ (type_of% @anT_f) ∧ (type_of% @orT_t) ∧ (type_of% @orT_f) ∧ (type_of% @z_seq) ∧ (type_of% @z_seqL) ∧ (type_of% @z_seqT) ∧ (type_of% @z_seqSt) ∧ (type_of% @z_neg) ∧ (type_of% @z_sub) ∧ (type_of% @z_gt) ∧ (type_of% @z_ge) ∧ (type_of% @z_addI) ∧ (type_of% @z_addS) ∧ (type_of% @z_addL) ∧ (type_of% @z_addT) ∧ (type_of% @z_mulI) ∧ (type_of% @z_mulS) ∧ (type_of% @z_mulL) ∧ (type_of% @z_atD) ∧ (type_of% @z_atC) ∧ (type_of% @z_ixS) ∧ (type_of% @z_ixL0) ∧ (type_of% @z_ixL1) ∧ (type_of% @z_ixL2) ∧ (type_of% @z_ixL3) ∧ (type_of% @z_ixL4) ∧ (type_of% @z_ixL5) ∧ (type_of% @z_ixL6) := ⟨@z_for, @z_lc, @z_yes, @z_sl, @z_noP, @z_aP, @z_intO, @z_ifS, @iteS_t, @iteS_f, @z_ifE, @iteE_t, @iteE_f, @z_an, @z_or, @anE_t, @anE_f, @orE_t, @orE_f, @z_tan, @z_tor, @anT_t, @anT_f, @orT_t, @orT_f, @z_seq, @z_seqL, @z_seqT, @z_seqSt, @z_neg, @z_sub, @z_gt, @z_ge, @z_addI, @z_addS, @z_addL, @z_addT, @z_mulI, @z_mulS, @z_mulL, @z_atD, @z_atC, @z_ixS, @z_ixL0, @z_ixL1, @z_ixL2, @z_ixL3, @z_ixL4, @z_ixL5, @z_ixL6⟩
theorem zGd2 : (type_of% @z_ixL7) ∧ (type_of% @z_ixT0) ∧ (type_of% @z_ixT1) ∧ (type_of% @z_ixT2) ∧ (type_of% @z_ixT3) ∧ (type_of% @z_ixT4) ∧ (type_of% @z_ixT5) ∧ (type_of% @z_ixT6) ∧ (type_of% @z_ixT7) ∧ (type_of% @z_eqS) ∧ (type_of% @z_eqI) ∧ (type_of% @z_eqB) ∧ (type_of% @z_eqL) ∧ (type_of% @z_eqT) ∧ (type_of% @z_neS) ∧ (type_of% @z_neI) ∧ (type_of% @z_neB) ∧ (type_of% @z_neL) ∧ (type_of% @z_neT) ∧ (type_of% @z_inL) ∧ (type_of% @z_inT) ∧ (type_of% @z_ninL) ∧ (type_of% @z_ninT) ∧ (type_of% @z_slL) ∧ (type_of% @z_slT) ∧ (type_of% @z_slS) ∧ (type_of% @z_lenL) ∧ (type_of% @z_lenT) ∧ (type_of% @z_lenS) ∧ (type_of% @z_intI) ∧ (type_of% @z_intB) ∧ (type_of% @z_tupL) ∧ (type_of% @z_tupT) ∧ (type_of% @z_par) ∧ (type_of% @z_r1) ∧ (type_of% @z_r1D) ∧ (type_of% @z_fld) ∧ (type_of% @z_fldD) ∧ (type_of% @z_isO) ∧ (type_of% @z_meth) ∧ (type_of% @z_make) := ⟨@z_ixL7, @z_ixT0, @z_ixT1, @z_ixT2, @z_ixT3, @z_ixT4, @z_ixT5, @z_ixT6, @z_ixT7, @z_eqS, @z_eqI, @z_eqB, @z_eqL, @z_eqT, @z_neS, @z_neI, @z_neB, @z_neL, @z_neT, @z_inL, @z_inT, @z_ninL, @z_ninT, @z_slL, @z_slT, @z_slS, @z_lenL, @z_lenT, @z_lenS, @z_intI, @z_intB, @z_tupL, @z_tupT, @z_par, @z_r1, @z_r1D, @z_fld, @z_fldD, @z_isO, @z_meth, @z_make⟩
theorem zGd3 : (type_of% @z_inK) ∧ (type_of% @z_ninK) ∧ (type_of% @z_oD) ∧ (type_of% @z_oF) ∧ (type_of% @z_oNil) ∧ (type_of% @z_oCons) ∧ (type_of% @z_setT) ∧ (type_of% @z_list) ∧ (type_of% @z_listL) ∧ (type_of% @z_listT) ∧ (type_of% @z_par3) ∧ (type_of% @z_sOs) ∧ (type_of% @z_sOl) ∧ (type_of% @z_sOd) ∧ (type_of% @z_rVar) ∧ (type_of% @z_appR) ∧ (type_of% @z_lstA0) ∧ (type_of% @z_lstAS) ∧ (type_of% @z_putS0) ∧ (type_of% @z_putSS) ∧ (type_of% @z_setO0) ∧ (type_of% @z_setO1) ∧ (type_of% @z_setO2) ∧ (type_of% @z_lstA1) := ⟨@z_inK, @z_ninK, @z_oD, @z_oF, @z_oNil, @z_oCons, @z_setT, @z_list, @z_listL, @z_listT, @z_par3, @z_sOs, @z_sOl, @z_sOd, @z_rVar, @z_appR, @z_lstA0, @z_lstAS, @z_putS0, @z_putSS, @z_setO0, @z_setO1, @z_setO2, @z_lstA1⟩
theorem zGd4 : (type_of% @z_lstA2) ∧ (type_of% @z_tBor) ∧ (type_of% @z_ownO0) ∧ (type_of% @z_ownOS) := ⟨@z_lstA2, @z_tBor, @z_ownO0, @z_ownOS⟩
theorem zGp0 : (type_of% @z_nnN) ∧ (type_of% @z_nnT) ∧ (type_of% @z_nnL) ∧ (type_of% @z_nnO) ∧ (type_of% @atI0) ∧ (type_of% @atI1) ∧ (type_of% @atI2) ∧ (type_of% @atI3) ∧ (type_of% @atI4) ∧ (type_of% @atI5) ∧ (type_of% @atI6) ∧ (type_of% @atI7) ∧ (type_of% @z_sz) ∧ (type_of% @z_notT) ∧ (type_of% @z_notF) ∧ (type_of% @z_tupD) ∧ (type_of% @iteS_t) ∧ (type_of% @iteS_f) ∧ (type_of% @iteE_t) ∧ (type_of% @iteE_f) ∧ (type_of% @anE_t) ∧ (type_of% @anE_f) ∧ (type_of% @orE_t) ∧ (type_of% @orE_f) ∧ (type_of% @anT_t) ∧ (type_of% @anT_f) ∧ (type_of% @orT_t) ∧ (type_of% @orT_f) ∧ (type_of% @z_atD) ∧ (type_of% @z_ixL) ∧ (type_of% @z_ixT) ∧ (type_of% @z_toDs) ∧ (type_of% @z_toDl) ∧ (type_of% @z_toDd) := ⟨@z_nnN, @z_nnT, @z_nnL, @z_nnO, @atI0, @atI1, @atI2, @atI3, @atI4, @atI5, @atI6, @atI7, @z_sz, @z_notT, @z_notF, @z_tupD, @iteS_t, @iteS_f, @iteE_t, @iteE_f, @anE_t, @anE_f, @orE_t, @orE_f, @anT_t, @anT_f, @orT_t, @orT_f, @z_atD, @z_ixL, @z_ixT, @z_toDs, @z_toDl, @z_toDd⟩
end DL
namespace L2
open PySem PySem.Spec PyProof.Rows
section
variable {X : Cx} {pins : List (Addr × Obj)} {σ : St} {H H' : Hp} {s : Shared} {E : Value → Shared → Prop} {a : Addr} {y v : V} {u r : Value} {Q : Unit → Shared → Prop}
/-- what may stand at a dict that was just made -/
def Dc0 (o : HO) : Prop := o = .dK [] ∨ o = .dT []
theorem Dc0.ok {P : Program} {w : World} {H : Hp} {o : HO} (c : Dc0 o) (h : Heap) (hb : sysModules < h.objs.size) : ObjOk P w H (h.push { cls := .type "dict", data := .dict #[] }) h.objs.size o := by
  rcases c with rfl | rfl
  · exact dk_empty h hb
  · exact dt_empty h hb
end
end L2
namespace DL
open PySem PySem.Spec PyProof.Rows L2 Evl
section
variable {K : PySem.W.Frag} {B : Bx} {G : Hp}
theorem DatT.any {k : List Key} : ∀ {vs : List (List Key × V)} {xs : List (D × D)}, DatT K B G vs xs → (vs.any fun kv => decide (kv.1 = k)) = xs.any fun z => keqD z.1 (embT k)
  | _, _, .nil => rfl
  | _, _, .cons (k := i) _ t => by
    rw [List.any_cons, List.any_cons, DatT.any t]
    show (decide (i = k) || _) = (keqD (embT i) (embT k) || _)
    rw [keqD_T]
end
end DL
namespace DL
open PySem PySem.Spec PyProof.Rows L2 Evl
end DL
namespace DL
open PySem PySem.Spec PyProof.Rows L2 Evl
def nodupK : List (D × D) → Bool
  | [] => true
  | (k, _) :: r => keqD k k && !(r.any fun z => keqD k z.1) && nodupK r
mutual
def okG : D → Bool
  | .dic ks => nodupK ks && okGk ks
  | .lst xs => okGs xs
  | .tup xs => okGs xs
  | .obj _ _ => false
  | .bag => false
  | .ktup _ => false
  | _ => true
def okGs : List D → Bool
  | [] => true
  | x :: xs => okG x && okGs xs
def okGk : List (D × D) → Bool
  | [] => true
  | (k, v) :: r => okG k && okG v && okGk r
end
section
variable {K : PySem.W.Frag} {B : Bx} {G : Hp}
mutual
/-- what a value tells is one thing -/
theorem Dat.fn : ∀ {v : V} {d e : D}, Dat K B G v d → Dat K B G v e → okG d = true → okG e = true → d = e
  | _, _, _, .non, h, _, _ => by cases h; rfl
  | _, _, _, .bl b, h, _, _ => by cases h; rfl
  | _, _, _, .int i, h, _, _ => by cases h; rfl
  | _, _, _, .str x, h, _, _ => by cases h; rfl
  | _, _, _, .lst a t, h, o, o' => by
    cases h with
    | lst a' t' =>
      rw [a] at a'
      injection a' with a'; injection a' with a'
      subst a'
      rw [Dats.fn t t' (by simpa [okG] using o) (by simpa [okG] using o')]
    | tup a' t' => rw [a] at a'; injection a' with a'; cases a'
    | dK a' t' => rw [a] at a'; injection a' with a'; cases a'
    | dT a' t' => rw [a] at a'; injection a' with a'; cases a'
    | ktup _ _ => simp [okG] at o'
    | bag => simp [okG] at o'
    | obj _ _ _ => simp [okG] at o'
  | _, _, _, .tup a t, h, o, o' => by
    cases h with
    | tup a' t' =>
      rw [a] at a'
      injection a' with a'; injection a' with a'
      subst a'
      rw [Dats.fn t t' (by simpa [okG] using o) (by simpa [okG] using o')]
    | lst a' t' => rw [a] at a'; injection a' with a'; cases a'
    | dK a' t' => rw [a] at a'; injection a' with a'; cases a'
    | dT a' t' => rw [a] at a'; injection a' with a'; cases a'
    | ktup _ _ => simp [okG] at o'
    | bag => simp [okG] at o'
    | obj _ _ _ => simp [okG] at o'
  | _, _, _, .dK a t, h, o, o' => by
    have ho : okGk _ = true := (Bool.and_eq_true_iff.mp (by simpa [okG] using o)).2
    have ho' := o'
    cases h with
    | dK a' t' =>
      rw [a] at a'
      injection a' with a'; injection a' with _ a'; injection a' with a'
      subst a'
      rw [DatK.fn t t' ho (Bool.and_eq_true_iff.mp (by simpa [okG] using o')).2]
    | lst a' t' => rw [a] at a'; injection a' with a'; cases a'
    | tup a' t' => rw [a] at a'; injection a' with a'; cases a'
    | dT a' t' => rw [a] at a'; injection a' with a'; injection a' with _ a'; cases a'
    | ktup _ _ => simp [okG] at o'
    | bag => simp [okG] at o'
    | obj _ _ _ => simp [okG] at o'
  | _, _, _, .dT a t, h, o, o' => by
    have ho : okGk _ = true := (Bool.and_eq_true_iff.mp (by simpa [okG] using o)).2
    cases h with
    | dT a' t' =>
      rw [a] at a'
      injection a' with a'; injection a' with _ a'; injection a' with a'
      subst a'
      rw [DatT.fn t t' ho (Bool.and_eq_true_iff.mp (by simpa [okG] using o')).2]
    | lst a' t' => rw [a] at a'; injection a' with a'; cases a'
    | tup a' t' => rw [a] at a'; injection a' with a'; cases a'
    | dK a' t' => rw [a] at a'; injection a' with a'; injection a' with _ a'; cases a'
    | ktup _ _ => simp [okG] at o'
    | bag => simp [okG] at o'
    | obj _ _ _ => simp [okG] at o'
  | _, _, _, .ktup _ _, _, o, _ => by simp [okG] at o
  | _, _, _, .bag, _, o, _ => by simp [okG] at o
  | _, _, _, .obj _ _ _, _, o, _ => by simp [okG] at o
theorem Dats.fn : ∀ {v : List V} {d e : List D}, Dats K B G v d → Dats K B G v e → okGs d = true → okGs e = true → d = e
  | _, _, _, .nil, h, _, _ => by cases h; rfl
  | _, _, _, .cons a t, h, o, o' => by
    cases h with
    | cons a' t' =>
      have h1 := Bool.and_eq_true_iff.mp (by simpa only [okGs] using o)
      have h2 := Bool.and_eq_true_iff.mp (by simpa only [okGs] using o')
      rw [Dat.fn a a' h1.1 h2.1, Dats.fn t t' h1.2 h2.2]
theorem DatK.fn : ∀ {v : List (Key × V)} {d e : List (D × D)}, DatK K B G v d → DatK K B G v e → okGk d = true → okGk e = true → d = e
  | _, _, _, .nil, h, _, _ => by cases h; rfl
  | _, _, _, .consI a t, h, o, o' => by
    cases h with
    | consI a' t' =>
      have h1 := Bool.and_eq_true_iff.mp (by simpa only [okGk] using o)
      have h2 := Bool.and_eq_true_iff.mp (by simpa only [okGk] using o')
      rw [Dat.fn a a' (Bool.and_eq_true_iff.mp h1.1).2 (Bool.and_eq_true_iff.mp h2.1).2, DatK.fn t t' h1.2 h2.2]
  | _, _, _, .consS a t, h, o, o' => by
    cases h with
    | consS a' t' =>
      have h1 := Bool.and_eq_true_iff.mp (by simpa only [okGk] using o)
      have h2 := Bool.and_eq_true_iff.mp (by simpa only [okGk] using o')
      rw [Dat.fn a a' (Bool.and_eq_true_iff.mp h1.1).2 (Bool.and_eq_true_iff.mp h2.1).2, DatK.fn t t' h1.2 h2.2]
theorem DatT.fn : ∀ {v : List (List Key × V)} {d e : List (D × D)}, DatT K B G v d → DatT K B G v e → okGk d = true → okGk e = true → d = e
  | _, _, _, .nil, h, _, _ => by cases h; rfl
  | _, _, _, .cons a t, h, o, o' => by
    cases h with
    | cons a' t' =>
      have h1 := Bool.and_eq_true_iff.mp (by simpa only [okGk] using o)
      have h2 := Bool.and_eq_true_iff.mp (by simpa only [okGk] using o')
      rw [Dat.fn a a' (Bool.and_eq_true_iff.mp h1.1).2 (Bool.and_eq_true_iff.mp h2.1).2, DatT.fn t t' h1.2 h2.2]
end
end
end DL
namespace DL
open PySem PySem.Spec PyProof.Rows L2 Evl
section
variable {X : Cx} {B : Bx} {pins : List (Addr × Obj)} {σ : L2.St} {H G : Hp} {s : Shared} {e o i : Expr} {r ry rx : DE} {pos : Pos}
theorem DatK.len {K : PySem.W.Frag} : ∀ {kvs : List (Key × V)} {ks : List (D × D)}, DatK K B G kvs ks → kvs.length = ks.length
  | _, _, .nil => rfl
  | _, _, .consI _ t => by rw [List.length_cons, List.length_cons, DatK.len t]
  | _, _, .consS _ t => by rw [List.length_cons, List.length_cons, DatK.len t]
theorem DatT.len {K : PySem.W.Frag} : ∀ {kvs : List (List Key × V)} {ks : List (D × D)}, DatT K B G kvs ks → kvs.length = ks.length
  | _, _, .nil => rfl
  | _, _, .cons _ t => by rw [List.length_cons, List.length_cons, DatT.len t]
end
section
variable {K : PySem.W.Frag} {B : Bx} {G : Hp} {d : Addr} {o : Obj}
theorem DatK.at : ∀ {kvs : List (Key × V)} {ks : List (D × D)}, DatK K B G kvs ks → ∀ {i : Nat} {k : Key} {v : V}, kvs[i]? = some (k, v) → ∃ x, ks[i]? = some (embK k, x) ∧ Dat K B G v x
  | _, _, .nil, _, _, _, h => nomatch h
  | _, _, .consI h1 _, 0, _, _, h => by cases h; exact ⟨_, rfl, h1⟩
  | _, _, .consS h1 _, 0, _, _, h => by cases h; exact ⟨_, rfl, h1⟩
  | _, _, .consI _ t, i + 1, _, _, h => DatK.at t (i := i) h
  | _, _, .consS _ t, i + 1, _, _, h => DatK.at t (i := i) h
theorem DatT.at : ∀ {kvs : List (List Key × V)} {ks : List (D × D)}, DatT K B G kvs ks → ∀ {i : Nat} {k : List Key} {v : V}, kvs[i]? = some (k, v) → ∃ x, ks[i]? = some (embT k, x) ∧ Dat K B G v x
  | _, _, .nil, _, _, _, h => nomatch h
  | _, _, .cons h1 _, 0, _, _, h => by cases h; exact ⟨_, rfl, h1⟩
  | _, _, .cons _ t, i + 1, _, _, h => DatT.at t (i := i) h
theorem dat_kV (k : Key) : Dat K B G (kV k) (embK k) := by cases k; exact .int _; exact .str _
theorem dats_kV : ∀ k : List Key, Dats K B G (k.map kV) (k.map embK)
  | [] => .nil
  | k :: ks => .cons (dat_kV k) (dats_kV ks)
/-- a tuple of numbers and texts that stands there is, or becomes, known -/
theorem Gr.tupK {H : Hp} {q : Addr} {k : List Key} (j : Jn K B G H) (h : H q = some (.tup (k.map kV))) : ∃ G2, Gr K B G H G2 H ∧ Dat K B G2 (.ref q) (embT k) := by
  cases g : G q with
  | none => exact ⟨_, Gr.learn j h g, .tup upd_same (dats_kV k)⟩
  | some o =>
    have := j.ex _ _ g
    rw [h] at this
    cases this
    exact ⟨G, Gr.refl j, .tup g (dats_kV k)⟩
end
end DL
namespace DL
open PySem PySem.Spec PyProof.Rows L2 Evl PySem.W
def dleD : D → D → Bool := dataLe false D.py
def sortD (xs : List D) : List D := xs.mergeSort dleD
structure SrtOk (xs : List D) : Prop where
  pl : ∀ d ∈ xs, plain d = true
  al : AllAlike (xs.map D.py)
  so : Sortable (xs.map D.py)
section
variable {prog : Program} {w : World} {A : Around} {E : Value → Shared → Prop} {s : Shared} {vs : List Value} {bs : List D} {R : Value → D → Prop}
theorem sorted_col {x : Value} {Q : Value → Shared → Prop} (hc : ∀ P : List Value → Shared → Prop, (∀ h' tk, (∀ b o, s.heap.get? b = some o → h'.get? b = some o) → P vs { s with heap := h', toks := tk }) → wpAny (model prog w) A.in1 (collect x) P E s)
    (e : EachIs R vs bs) (er : EachIs (fun v b => ∃ as, Reads s.heap v b.py as) vs bs) (hal : AllAlike (bs.map D.py)) (hk : Sortable (bs.map D.py)) (hL : bs.length ≤ sizeLine)
    (hu : ∀ b, b ∈ bs → A.units + 2 + b.py.depth < cLine) (h : ∀ (out : List Value) (h1 h' : Heap) (tk : Nat) (p : Addr) (n : Nat), out.length = bs.length → EachIs R out (sortD bs) → (∀ b o, s.heap.get? b = some o → h1.get? b = some o) → (∀ b o, h1.get? b = some o → h'.get? b = some o) → h1.objs.size ≤ p → h'.get? p = some (seqObj "list" (List.toArray out) n) → Q (.ref p) { s with heap := h', toks := tk }) :
    wpAny (model prog w) A (call (.builtin "sorted") [x]) Q E s := by
  refine call_function_entry_kw kind_sorted plain_sorted entry_sorted (args_sorted1 _) ?_
  unfold Builtin.«sorted»
  refine wpAny_bind (m := checkCount "sorted" 1 1 _) (wpAny_pure ?_)
  refine wpAny_bind (hc _ fun h1 tk hk1 => ?_)
  have hL' : vs.length ≤ sizeLine := by rw [e.length]; exact hL
  refine wpAny_bind (wpAny_newList ?_ hL')
  have ho : (h1.push (seqObj "list" vs.toArray 0)).get? h1.objs.size = some (seqObj "list" vs.toArray 0) := Heap.get?_push_size _ rfl
  show wpAny _ _ _ _ _ { s with heap := h1.push (seqObj "list" vs.toArray 0), toks := tk }
  have k2 : ∀ b o, s.heap.get? b = some o → b ≠ h1.objs.size ∧ (h1.push (seqObj "list" vs.toArray 0)).get? b = some o := fun b o q =>
    ⟨Nat.ne_of_lt (Heap.lt_size (hk1 b o q)), Heap.get?_push_of_some _ (hk1 b o q)⟩
  have er' : EachIs (fun v b => ∃ as, Reads (sortingHeap (h1.push (seqObj "list" vs.toArray 0)) h1.objs.size vs) v (D.py b) as) vs bs := er.mono fun _ _ ⟨as, r⟩ => ⟨as, PyProof.Rows.Reads.keeps (fun b o q => sortingHeap_old (k2 b o q).1 (k2 b o q).2) r⟩
  refine wpAny_bind (wpAny_holding (wpAny_call_entry_kw slot_list_sort ⟨_, ho, rfl⟩ entry_list_sort ?body (args_list_sort _)))
  case body =>
    refine list_sort_vals (s := { s with heap := h1.push (seqObj "list" vs.toArray 0), toks := tk }) ho (SortsAt.data (s := { s with heap := sortingHeap (h1.push (seqObj "list" vs.toArray 0)) h1.objs.size vs, toks := tk }) (each_map (R := fun v d => ∃ as, Reads (sortingHeap (h1.push (seqObj "list" vs.toArray 0)) h1.objs.size vs) v d as) D.py er') hal hk (bound_map hu)) hL' ?_
    refine ⟨_, rfl, wpAny_pure ⟨_, rfl, ?_⟩⟩
    obtain ⟨n, hn⟩ := sortedHeap_at (vs := vs) (out := (sortVals (dataKind (sortingHeap (h1.push (seqObj "list" vs.toArray 0)) h1.objs.size vs) (bs.map D.py)) false vs vs).toArray) ho
    refine h _ h1 _ _ _ n ?_ (sortVals_data false e er' hal) hk1 (fun b o q => ?_) (Nat.le_refl _) hn
    · rw [sortVals_length false rfl]; exact e.length
    · rw [sortedHeap_old (Nat.ne_of_lt (Heap.lt_size q)) (by rw [size_push']; exact Nat.lt_succ_of_lt (Heap.lt_size q))]
      exact Heap.get?_push_of_some _ q
end
section
variable {K : PySem.W.Frag} {B : Bx} {G H : Hp}
def srcD (d : D) : Option (List D) := match d with
  | .lst xs => some xs
  | .dic ks => some (ks.map (·.1))
  | _ => none
/-- tuples of numbers and texts that stand there become known -/
theorem Gr.tupKs (j : Jn K B G H) : ∀ {qs : List Addr} {kk : List (List Key)}, qs.length = kk.length → (∀ (i : Nat) (q : Addr) (k : List Key), qs[i]? = some q → kk[i]? = some k → H q = some (.tup (k.map kV))) → ∃ G2, Gr K B G H G2 H ∧ Dats K B G2 (qs.map V.ref) (kk.map embT)
  | [], [], _, _ => ⟨G, Gr.refl j, .nil⟩
  | q :: qs, k :: kk, hl, h => by
    obtain ⟨G2, g2, d2⟩ := Gr.tupKs j (qs := qs) (kk := kk) (by simpa using hl) fun i q' k' h1 h2 => h (i + 1) q' k' h1 h2
    obtain ⟨G3, g3, d3⟩ := Gr.tupK g2.j (h 0 q k rfl rfl)
    exact ⟨G3, g2.trans g3, .cons d3 (d2.mono g3.ex)⟩
  | [], _ :: _, hl, _ => by simp at hl
  | _ :: _, [], hl, _ => by simp at hl
theorem vals_of_get : ∀ {xs : List V} {vs : List Value}, xs.length = vs.length → (∀ (i : Nat) (a : V) (b : Value), xs[i]? = some a → vs[i]? = some b → RelV a b) → Vals xs vs
  | [], [], _, _ => .nil
  | x :: xs, v :: vs, hl, h => .cons (h 0 x v rfl rfl) (vals_of_get (by simpa using hl) fun i a b h1 h2 => h (i + 1) a b h1 h2)
  | [], _ :: _, hl, _ => by simp at hl
  | _ :: _, [], hl, _ => by simp at hl
theorem vals_refs : ∀ qs : List Addr, Vals (qs.map V.ref) (qs.map Value.ref)
  | [] => .nil
  | q :: qs => .cons rfl (vals_refs qs)
theorem refs_list : ∀ vs : List Value, (∀ v ∈ vs, ∃ q, v = Value.ref q) → ∃ qs : List Addr, vs = qs.map Value.ref
  | [], _ => ⟨[], rfl⟩
  | v :: vs, h => by
    obtain ⟨q, rfl⟩ := h v List.mem_cons_self
    obtain ⟨qs, rfl⟩ := refs_list vs fun v hv => h v (List.mem_cons_of_mem _ hv)
    exact ⟨q :: qs, rfl⟩
theorem datK_keys : ∀ {kvs : List (Key × V)} {ks : List (D × D)}, DatK K B G kvs ks → Dats K B G (kvs.map fun p => kV p.1) (ks.map (·.1))
  | _, _, .nil => .nil
  | _, _, .consI _ t => .cons (.int _) (datK_keys t)
  | _, _, .consS _ t => .cons (.str _) (datK_keys t)
theorem datT_keys : ∀ {kvs : List (List Key × V)} {ks : List (D × D)}, DatT K B G kvs ks → (kvs.map (·.1)).map embT = ks.map (·.1)
  | _, _, .nil => rfl
  | _, _, .cons _ t => by rw [List.map_cons, List.map_cons, List.map_cons, datT_keys t]
theorem each_dats {xs : List V} {vs : List Value} {ds : List D} (rv : Vals xs vs) (hd : Dats K B G xs ds) : EachIs (fun v d => ∃ x, RelV x v ∧ Dat K B G x d) vs ds := by
  induction rv generalizing ds with
  | nil => cases hd; exact .nil
  | cons r _ ih =>
    cases hd with
    | cons h t => exact .cons ⟨_, r, h⟩ (ih t)
theorem dats_each {vs : List Value} {ds : List D} (e : EachIs (fun v d => ∃ x, RelV x v ∧ Dat K B G x d) vs ds) : ∃ xs, Vals xs vs ∧ Dats K B G xs ds := by
  induction e with
  | nil => exact ⟨[], .nil, .nil⟩
  | cons h _ ih =>
    obtain ⟨x, r, d⟩ := h
    obtain ⟨xs, a, b⟩ := ih
    exact ⟨x :: xs, .cons r a, .cons d b⟩
end
section
variable {X : Cx} {B : Bx} {pins : List (Addr × Obj)} {σ : L2.St} {H G : Hp} {s : Shared}
theorem sorted_V {x : Value} {vs : List Value} {xs : List V} {ds : List D} {P : VK} (hu : X.A.units + 70 < cLine) (I : Inv X pins σ H s) (hc : ∀ (P : List Value → Shared → Prop) (E : Value → Shared → Prop), (∀ h' tk, (∀ b o, s.heap.get? b = some o → h'.get? b = some o) → P vs { s with heap := h', toks := tk }) → wpAny (model X.prog X.w) X.A.in1 (collect x) P E s)
    (rv : Vals xs vs) (jex : Ex G H) (hd : Dats X.K B G xs ds) (ok : SrtOk ds) (hl : ds.length ≤ sizeLine) (k : ∀ ys p, Dats X.K B G ys (sortD ds) → H p = none → P (.ref p) (upd H p (.lst ys))) :
    wpAny (model X.prog X.w) X.A (call (.builtin "sorted") [x]) (EP X pins σ P) X.xe s := by
  have e := each_dats rv hd
  have er : EachIs (fun v (b : D) => ∃ as, Reads s.heap v b.py as) vs ds := (each_mem e).mono fun v d ⟨⟨y, r, dd⟩, m⟩ => Dp.reads I _ _ _ (dat_dp jex dd (Bool.and_eq_true_iff.mp (ok.pl d m)).1) r
  refine sorted_col (fun P h => hc P _ h) e er ok.al ok.so hl (fun b m => ?_) fun out h1 h' tk p n hlen eo kp1 kp hp hn => ?_
  · have h1 := Bool.and_eq_true_iff.mp (ok.pl b m)
    have := py_dep b h1.1
    have h3 : b.dep ≤ 64 := of_decide_eq_true h1.2
    omega
  · obtain ⟨ys, r2, d2⟩ := dats_each eo
    have hz : ys.length ≤ sizeLine := by rw [r2.length, hlen]; exact hl
    exact ⟨.ref p, upd H p (.lst ys), (I.kept (t' := tk) kp1).laid (t' := tk) kp hp ⟨hz, out, n, r2, hn⟩, rfl, k ys p d2 ((I.kept (t' := tk) kp1).hok.fresh hp)⟩
def rSortG (K : PySem.W.Frag) (B : Bx) : List V → Hp → VK → Prop := fun vs H P => ∃ (G : Hp) (d : D) (v : V) (ds : List D), vs = [v] ∧ Jn K B G H ∧ Dat K B G v d ∧ srcD d = some ds ∧ SrtOk ds ∧
  ∀ ys p G2, Gr K B G H G2 H → Dats K B G2 ys (sortD ds) → H p = none → P (.ref p) (upd H p (.lst ys))
theorem cr_sortG (hc : X.calm = true) (hu : X.A.units + 70 < cLine) : CallR X (.builtin "sorted") (rSortG X.K B) := by
  intro pins s σ H xs us Q I r h
  obtain ⟨G, d, v, ds, rfl, j, hd, hs, ok, k⟩ := h
  obtain ⟨u, rfl, ru⟩ := vals1 r
  cases hd with
  | @lst a xs ds h1 h2 =>
    cases hs
    cases ru
    obtain ⟨its, rv, hl, hz⟩ := I.list (sq_of (j.ex _ _ h1))
    have hz' : its.length ≤ sizeLine := by rw [← rv.length]; exact hz
    refine sorted_V hu I (fun P E h => ?_) rv j.ex h2 ok (by rw [← h2.len]; exact hz) fun ys p hy hp => k ys p G (Gr.refl j) hy hp
    refine collect_list hl.isList (h _ _ fun b o q => ?_) hz'
    have hlt : b < s.heap.objs.size := Heap.lt_size q
    rw [Heap.get?_update_ne _ _ _ _ (Nat.ne_of_lt hlt)]
    exact Heap.get?_push_of_some _ q
  | @dK a od kvs ks h1 h2 =>
    cases hs
    cases ru
    obtain ⟨hs, hgd, hx, es, ep, vs, hdt, hsz, kv, hm⟩ := I.frzK (j.ex _ _ h1)
    have hlen := h2.len
    obtain ⟨z, _, _⟩ := dk_rd I.hok (.inr ⟨od, j.ex _ _ h1⟩)
    have hl : (ks.map (·.1)).length ≤ sizeLine := by rw [List.length_map, ← hlen]; exact z
    have hvl : kvs.length = vs.length := Paired.length kv
    obtain ⟨es2, ep2, raw, hsz2, hk2⟩ := Heap.DictOf.raw hm.dictOf
    refine sorted_V (vs := es2.toList.map (·.key)) (xs := kvs.map fun p => kV p.1) (ds := ks.map (·.1)) hu I (fun P E h => ?_) ?_ j.ex ?_ ok hl fun ys p hy hp => k ys p G (Gr.refl j) hy hp
    · refine kdu_collect (A := X.A.in1) (KdlSrc.rawDict (es := es2) (ep := ep2) hs) (I.ok.hd hc) raw (by rw [hsz2, ← hvl]; exact z) fun h' tk acc hk hacc => ?_
      have : acc.toList = es2.toList.map (·.key) := by
        apply List.ext_getElem?
        intro i
        rw [List.getElem?_map, Array.getElem?_toList, Array.getElem?_toList]
        by_cases hi : i < es2.size
        · have h3 : i < acc.size := by rw [hacc.1]; exact hi
          rw [Array.getElem?_eq_getElem hi, Array.getElem?_eq_getElem h3]
          obtain ⟨_, e⟩ := hacc.2 i _ (Array.getElem?_eq_getElem h3)
          rw [e]
          rfl
        · rw [Array.getElem?_eq_none (by rw [hacc.1]; omega), Array.getElem?_eq_none (by omega)]
          rfl
      rw [this]
      exact h _ _ hk
    · refine vals_of_get (by rw [List.length_map, List.length_map, hvl, ← hsz2]; exact (Array.length_toList).symm) fun i a b ha hb => ?_
      rw [List.getElem?_map] at ha hb
      obtain ⟨⟨k1, v1⟩, e1, rfl⟩ := Option.map_eq_some_iff.mp ha
      obtain ⟨en, e2, rfl⟩ := Option.map_eq_some_iff.mp hb
      rw [Array.getElem?_toList] at e2
      obtain ⟨u, e3, _⟩ := kv_get kv e1
      obtain ⟨hi, e4⟩ := Array.getElem?_eq_some_iff.mp e2
      have := (hk2 i hi k1 u e3).1
      rw [e4] at this
      exact relV_key this
    · exact datK_keys h2
  | @dT a od kvs ks h1 h2 =>
    cases hs
    cases ru
    obtain ⟨hs, hgd, hx, es, ep, hdt, hsz, ent⟩ := I.frzT (j.ex _ _ h1)
    have hlen := h2.len
    obtain ⟨z, _, _⟩ := dt_rd I.hok (.inr ⟨od, j.ex _ _ h1⟩)
    have hl : (ks.map (·.1)).length ≤ sizeLine := by rw [List.length_map, ← hlen]; exact z
    have raw : s.heap.DictRaw a es ep := ⟨od, hgd, hx, hdt⟩
    obtain ⟨qs, hqs⟩ : ∃ qs : List Addr, es.toList.map (·.key) = qs.map Value.ref := by
      refine refs_list _ fun v hv => ?_
      obtain ⟨en, he, rfl⟩ := List.mem_map.mp hv
      obtain ⟨i, hi, e⟩ := List.getElem_of_mem he
      have hi' : i < kvs.length := by rw [← hsz]; simpa using hi
      obtain ⟨en', q, h3, h4, _⟩ := ent i _ _ (show kvs[i]? = some (kvs[i].1, kvs[i].2) from List.getElem?_eq_getElem hi')
      rw [← Array.getElem?_toList, List.getElem?_eq_getElem hi, e] at h3
      cases h3
      exact ⟨q, h4⟩
    have hql : qs.length = kvs.length := by
      have := congrArg List.length hqs
      rw [List.length_map, List.length_map, Array.length_toList] at this
      omega
    obtain ⟨G2, g2, d2⟩ := Gr.tupKs j (qs := qs) (kk := kvs.map (·.1)) (by rw [List.length_map]; exact hql) fun i q kk h3 h4 => by
      rw [List.getElem?_map] at h4
      obtain ⟨⟨k1, v1⟩, e1, rfl⟩ := Option.map_eq_some_iff.mp h4
      obtain ⟨en, q', h5, h6, h7⟩ := ent i _ _ e1
      have h8 : (es.toList.map (·.key))[i]? = some (.ref q) := by rw [hqs, List.getElem?_map, h3]; rfl
      rw [List.getElem?_map, Array.getElem?_toList, h5] at h8
      have h9 : en.key = .ref q := Option.some.inj h8
      rw [h6] at h9
      cases h9
      exact h7
    refine sorted_V (G := G2) (vs := qs.map Value.ref) (xs := qs.map V.ref) (ds := ks.map (·.1)) hu I (fun P E h => ?_) (vals_refs qs) g2.j.ex ?_ ok hl fun ys p hy hp => k ys p G2 g2 hy hp
    · refine kdu_collect (A := X.A.in1) (KdlSrc.rawDict (es := es) (ep := ep) hs) (I.ok.hd hc) raw (by rw [hsz]; exact z) fun h' tk acc hk hacc => ?_
      have : acc.toList = es.toList.map (·.key) := by
        apply List.ext_getElem?
        intro i
        rw [List.getElem?_map, Array.getElem?_toList, Array.getElem?_toList]
        by_cases hi : i < es.size
        · have h3 : i < acc.size := by rw [hacc.1]; exact hi
          rw [Array.getElem?_eq_getElem hi, Array.getElem?_eq_getElem h3]
          obtain ⟨_, e⟩ := hacc.2 i _ (Array.getElem?_eq_getElem h3)
          rw [e]
          rfl
        · rw [Array.getElem?_eq_none (by rw [hacc.1]; omega), Array.getElem?_eq_none (by omega)]
          rfl
      rw [this, hqs]
      exact h _ _ hk
    · rw [datT_keys h2] at d2
      exact d2
  | _ => cases hs
end
/-- sorted(x): x a list, or a dict -/
def srtL (ds : List D) (Q : List D → Prop) : Prop := match ds with
  | [.lst xs] => SrtOk xs ∧ Q (sortD xs)
  | [.dic ks] => SrtOk (ks.map (·.1)) ∧ Q (sortD (ks.map (·.1)))
  | _ => False
def fSorted (ra : DA) : DA := fun δ Q => ra δ fun ds => srtL ds Q
theorem srtL_src {ds : List D} {Q : List D → Prop} (h : srtL ds Q) : ∃ d xs, ds = [d] ∧ srcD d = some xs ∧ SrtOk xs ∧ Q (sortD xs) := by
  match ds, h with
  | [.lst xs], h => exact ⟨_, xs, rfl, rfl, h.1, h.2⟩
  | [.dic ks], h => exact ⟨_, _, rfl, rfl, h.1, h.2⟩
section
variable {X : Cx} {B : Bx} {e : Expr} {rA : DA} {pos : Pos}
theorem pf_sorted {p : Pos} (hc : X.calm = true) (hu : X.A.units + 70 < cLine) (hg : Gl X "sorted") (hm : X.mg "sorted" = none) (ha : PAD X B [e] rA) (hs : starEach [e] X.env = (false, eval e X.env) :: starEach [] X.env := by rfl) (hpl : (backTo pos (starEach [] X.env)).any (·.1) = false := by rfl) :
    PF X B (.Call (.Name "sorted" p) [e] [] pos) (fSorted rA) :=
  pe_mono (pe_callB (cr_sortG (B := B) hc hu) hg hm (by decide +kernel) ha (by decide) (by decide) hs hpl) fun σ H P q => by
  obtain ⟨H0, G, δ, Q, j, st, hr, k⟩ := q
  refine ⟨H0, G, δ, _, j, st, hr, fun ds vs G2 H2 q2 g2 h2 => ?_⟩
  obtain ⟨d, xs, rfl, hs, ok, q⟩ := srtL_src q2
  cases h2 with
  | cons h3 h4 =>
    cases h4
    refine ⟨G2, d, _, xs, rfl, g2.j, h3, hs, ok, fun ys p G3 g3 hy hp => ?_⟩
    exact pf_new k (g2.trans g3) hp hy q
end
theorem room_u70 {k : Nat} {A : Around} (h : Room k A) : A.units + 70 < cLine := by have := h.un; omega
section
variable {δ : DS} {rA : DA} {QL : List D → Prop} {xs : List D} {ks : List (D × D)}
theorem z_sorted : fSorted rA δ QL = rA δ fun ds => srtL ds QL := propext Iff.rfl
theorem z_srtL : srtL [.lst xs] QL = (SrtOk xs ∧ QL (sortD xs)) := propext Iff.rfl
theorem z_srtD : srtL [.dic ks] QL = (SrtOk (ks.map (·.1)) ∧ QL (sortD (ks.map (·.1)))) := propext Iff.rfl
end
theorem sort_map {α : Type} (f : α → D) (le : α → α → Bool) {l : List α} (h : ∀ a ∈ l, ∀ b ∈ l, dleD (f a) (f b) = le a b) : sortD (l.map f) = (l.mergeSort le).map f :=
  (sort_maps (r := le) (s := dleD) f fun a ha b hb => (h a ha b hb).symm).symm
theorem dleD_eq (a b : D) : dleD a b = !dataLt b.py a.py := rfl
/-- tuples: by the first item, then by the rest -/
theorem lt_tup_cons {x y : PyData} {xs ys : List PyData} (h : alike x y = true) : dataLt (.tuple (x :: xs)) (.tuple (y :: ys)) = if PyData.eqv x y = true then dataLt (.tuple xs) (.tuple ys) else dataLt x y := by
  rw [dataLt_tuple, dataLt_tuple]
  cases e : PyData.eqv x y with
  | true => rw [if_pos rfl]; exact dataLt_all_yes h e
  | false => rw [if_neg (by decide)]; exact dataLt_all_no h e
theorem lt_tup_nil : dataLt (.tuple []) (.tuple []) = false := by rw [dataLt_tuple]; rfl
end DL
namespace DL
open PySem PySem.Spec PyProof.Rows L2 Evl PySem.W
mutual
def flat : D → Bool
  | .non => true
  | .bl _ => true
  | .int _ => true
  | .str _ => true
  | .tup xs => flatL xs
  | _ => false
def flatL : List D → Bool
  | [] => true
  | x :: xs => flat x && flatL xs
end
mutual
theorem reads_flat {h : Heap} : ∀ (d : D) (v : Value) (as : List Addr), flat d = true → Reads h v d.py as → as = []
  | .non, _, _, _, r => by rw [D.py] at r; cases r; rfl
  | .bl _, _, _, _, r => by rw [D.py] at r; cases r; rfl
  | .int _, _, _, _, r => by rw [D.py] at r; cases r; rfl
  | .str _, _, _, _, r => by rw [D.py] at r; cases r; rfl
  | .tup xs, _, _, f, r => by
    rw [D.py] at r
    cases r with
    | tuple _ _ _ h => exact readsAll_flat xs _ _ (by simpa [flat] using f) h
theorem readsAll_flat {h : Heap} : ∀ (ds : List D) (vs : List Value) (as : List Addr), flatL ds = true → ReadsAll h vs (pyL ds) as → as = []
  | [], _, _, _, r => by rw [pyL] at r; cases r; rfl
  | x :: xs, _, _, f, r => by
    rw [pyL] at r
    have f' : flat x = true ∧ flatL xs = true := by simpa [flatL] using f
    cases r with
    | cons h1 h2 => rw [reads_flat x _ _ f'.1 h1, readsAll_flat xs _ _ f'.2 h2]; rfl
end
def kpy (ks : List (D × D)) : PyData := .dict (ks.map fun z => (z.1.py, z.2.py))
def wtK (ks : List (D × D)) : Nat := (ks.map fun z => D.wt z.1 + D.wt z.2 + 4).sum
structure RepK (ks : List (D × D)) : Prop where
  vp : ∀ z ∈ ks, plain z.2 = true ∧ flat z.2 = true
  kp : ∀ z ∈ ks, plain z.1 = true ∧ flat z.1 = true
  wt : wtK ks ≤ 15000000
  kk : (ks.all fun z => (dk1 z.1).isSome) = true ∨ (ks.all fun z => (dkT z.1).isSome) = true
def cReprD : FD := fun ds Q => match ds with
  | [.dic ks] => RepK ks ∧ Q (.str (kpy ks).shown)
  | _ => False
theorem shownKv_len : ∀ {ks : List (D × D)}, (∀ z ∈ ks, plain z.2 = true ∧ flat z.2 = true) → (∀ z ∈ ks, plain z.1 = true ∧ flat z.1 = true) → ((PyData.shownKv (ks.map fun z => (z.1.py, z.2.py))).map fun t => t.length + 2).sum ≤ wtK ks
  | [], _, _ => by simp [PyData.shownKv, wtK]
  | z :: ks, h1, h2 => by
    have ih := shownKv_len (ks := ks) (fun z m => h1 z (List.mem_cons_of_mem _ m)) fun z m => h2 z (List.mem_cons_of_mem _ m)
    have a := py_len z.1 (Bool.and_eq_true_iff.mp (h2 z List.mem_cons_self).1).1
    have b := py_len z.2 (Bool.and_eq_true_iff.mp (h1 z List.mem_cons_self).1).1
    rw [List.map_cons, PyData.shownKv, List.map_cons, List.sum_cons, strLen_append, strLen_append]
    have e2 : ((": " : String) : Str).length = 2 := rfl
    unfold wtK at ih ⊢
    rw [List.map_cons, List.sum_cons]
    omega
theorem kpy_len {ks : List (D × D)} (h : RepK ks) : (kpy ks).shown.length ≤ sizeLine := by
  have a := shownKv_len h.vp h.kp
  have b := h.wt
  unfold kpy
  rw [PyData.shown]
  unfold dictText
  rw [strLen_append, strLen_append]
  have c := join_up (PyData.shownKv (ks.map fun z => (z.1.py, z.2.py)))
  have e1 : (("{" : String) : Str).length = 1 := rfl
  have e2 : (("}" : String) : Str).length = 1 := rfl
  rw [sizeLine_eq]
  omega
theorem kpy_show {ks : List (D × D)} (h1 : ∀ z ∈ ks, plain z.2 = true ∧ flat z.2 = true) (h2 : ∀ z ∈ ks, plain z.1 = true ∧ flat z.1 = true) : PyData.showableKv (ks.map fun z => (z.1.py, z.2.py)) = true := by
  induction ks with
  | nil => rfl
  | cons z ks ih =>
    rw [List.map_cons, PyData.showableKv, py_show z.1 (Bool.and_eq_true_iff.mp (h2 z List.mem_cons_self).1).1, py_show z.2 (Bool.and_eq_true_iff.mp (h1 z List.mem_cons_self).1).1,
      ih (fun z m => h1 z (List.mem_cons_of_mem _ m)) fun z m => h2 z (List.mem_cons_of_mem _ m)]
    rfl
theorem pyL_fine : ∀ {ds : List D}, (∀ d ∈ ds, D.fine d = true ∧ flat d = true) → fineL ds = true ∧ flatL ds = true
  | [], _ => ⟨rfl, rfl⟩
  | d :: ds, h => by
    have a := h d List.mem_cons_self
    have b := pyL_fine fun x m => h x (List.mem_cons_of_mem _ m)
    rw [fineL, flatL, a.1, a.2, b.1, b.2]
    exact ⟨rfl, rfl⟩
theorem plain_dep {d : D} (h : plain d = true) : d.py.depth ≤ 64 := by
  have h1 := Bool.and_eq_true_iff.mp h
  have h2 := py_dep d h1.1
  have h3 : d.dep ≤ 64 := of_decide_eq_true h1.2
  omega
theorem depthKv_le : ∀ {ks : List (D × D)}, (∀ z ∈ ks, plain z.2 = true ∧ flat z.2 = true) → (∀ z ∈ ks, plain z.1 = true ∧ flat z.1 = true) → PyData.depthKv (ks.map fun z => (z.1.py, z.2.py)) ≤ 64
  | [], _, _ => by rw [List.map_nil, PyData.depthKv]; omega
  | z :: ks, h1, h2 => by
    have ih := depthKv_le (ks := ks) (fun z m => h1 z (List.mem_cons_of_mem _ m)) fun z m => h2 z (List.mem_cons_of_mem _ m)
    have a := plain_dep (h1 z List.mem_cons_self).1
    have b := plain_dep (h2 z List.mem_cons_self).1
    rw [List.map_cons, PyData.depthKv]
    omega
section
variable {X : Cx} {B : Bx} {pins : List (Addr × Obj)} {σ : L2.St} {H G : Hp} {s : Shared}
theorem reads_dict (I : Inv X pins σ H s) (e : Ex G H) {a : Addr} {o : Obj} {es : Array DictEntry} {ep : Nat} {ks : List (D × D)} {kx vx : List V} (ho : s.heap.get? a = some o) (hx : o.ExactDict) (hd : o.data = .dict es ep)
    (rk : Vals kx (es.toList.map (·.key))) (rv : Vals vx (es.toList.map (·.val))) (dk : Dats X.K B G kx (ks.map (·.1))) (dv : Dats X.K B G vx (ks.map (·.2))) (h : RepK ks) : Reads s.heap (.ref a) (kpy ks) [a] := by
  have f1 := pyL_fine (ds := ks.map (·.1)) fun d m => by
    obtain ⟨z, hz, rfl⟩ := List.mem_map.mp m
    exact ⟨(Bool.and_eq_true_iff.mp (h.kp z hz).1).1, (h.kp z hz).2⟩
  have f2 := pyL_fine (ds := ks.map (·.2)) fun d m => by
    obtain ⟨z, hz, rfl⟩ := List.mem_map.mp m
    exact ⟨(Bool.and_eq_true_iff.mp (h.vp z hz).1).1, (h.vp z hz).2⟩
  obtain ⟨as, r1⟩ := Dp.readsAll I _ _ _ (dats_dp e dk f1.1) rk
  obtain ⟨bs, r2⟩ := Dp.readsAll I _ _ _ (dats_dp e dv f2.1) rv
  have e1 := readsAll_flat _ _ _ f1.2 r1
  have e2 := readsAll_flat _ _ _ f2.2 r2
  subst e1 e2
  have q1 : pyL (ks.map (·.1)) = (ks.map fun z => (z.1.py, z.2.py)).map (·.1) := by rw [pyL_map, List.map_map, List.map_map]; rfl
  have q2 : pyL (ks.map (·.2)) = (ks.map fun z => (z.1.py, z.2.py)).map (·.2) := by rw [pyL_map, List.map_map, List.map_map]; rfl
  rw [q1] at r1
  rw [q2] at r2
  exact .dict ho hx.1 hd r1 r2
theorem datK_vals {K : PySem.W.Frag} : ∀ {kvs : List (Key × V)} {ks : List (D × D)}, DatK K B G kvs ks → Dats K B G (kvs.map (·.2)) (ks.map (·.2))
  | _, _, .nil => .nil
  | _, _, .consI h t => .cons h (datK_vals t)
  | _, _, .consS h t => .cons h (datK_vals t)
theorem datT_vals {K : PySem.W.Frag} : ∀ {kvs : List (List Key × V)} {ks : List (D × D)}, DatT K B G kvs ks → Dats K B G (kvs.map (·.2)) (ks.map (·.2))
  | _, _, .nil => .nil
  | _, _, .cons h t => .cons h (datT_vals t)
theorem call_reprDD (hg : X.A.guards = some []) (hu : X.A.units + 70 < cLine) : CallR X (.builtin "repr") (cLift X.K B cReprD) := by
  intro pins s σ H vs us P I rv h
  obtain ⟨G, ds, Q, j, hd, hq, k⟩ := h
  cases hd with
  | nil => exact hq.elim
  | cons h1 h2 =>
    cases h2 with
    | cons _ _ => cases h1 <;> exact hq.elim
    | nil =>
      obtain ⟨u, rfl, ru⟩ := vals1 rv
      have fin : ∀ {a : Addr} {ks : List (D × D)}, RepK ks → Q (.str (kpy ks).shown) → (a == sysModules) = false → Reads s.heap (.ref a) (kpy ks) [a] → wpAny (model X.prog X.w) X.A (call (.builtin "repr") [.ref a]) (EP X pins σ P) X.xe s := fun {a ks} rk q hs r => by
        have dep : (kpy ks).depth ≤ 65 := by
          unfold kpy
          rw [PyData.depth]
          have := depthKv_le rk.vp rk.kp
          omega
        refine repr_of_reads' r (by unfold kpy; rw [PyData.showable]; exact kpy_show rk.vp rk.kp) (fun _ m => ?_) hg (by omega) (fun _ _ e => e) (fun h' u tk hk => ⟨.str _, H, I.kept hk, ⟨_, rfl⟩, k _ _ G H q (Gr.refl j) (.str _)⟩) (kpy_len rk)
        rw [List.mem_singleton] at m
        subst m
        simp at hs
      cases h1 with
      | @dK a od kvs ks h3 h4 =>
        cases ru
        obtain ⟨rk, q⟩ := (show RepK ks ∧ Q (.str (kpy ks).shown) from hq)
        obtain ⟨hs, hgd, hx, es, ep, vs, hdt, hsz, kv, hm⟩ := I.frzK (j.ex _ _ h3)
        have hvl : kvs.length = vs.length := Paired.length kv
        obtain ⟨es2, ep2, ⟨o2, ho2, hx2, hd2⟩, hsz2, hk2⟩ := Heap.DictOf.raw hm.dictOf
        have at_ : ∀ (i : Nat) (k1 : Key) (v1 : V) (en : DictEntry), kvs[i]? = some (k1, v1) → es2[i]? = some en → RelV (kV k1) en.key ∧ RelV v1 en.val := fun i k1 v1 en e1 e2 => by
          obtain ⟨u, e3, ru⟩ := kv_get kv e1
          obtain ⟨hi, e4⟩ := Array.getElem?_eq_some_iff.mp e2
          have := hk2 i hi k1 u e3
          rw [e4] at this
          exact ⟨relV_key this.1, by rw [this.2]; exact ru⟩
        refine fin rk q hs (reads_dict I j.ex (kx := kvs.map fun p => kV p.1) (vx := kvs.map (·.2)) ho2 hx2 hd2 ?_ ?_ (datK_keys h4) (datK_vals h4) rk)
        · refine vals_of_get (by rw [List.length_map, List.length_map, hvl, ← hsz2]; exact (Array.length_toList).symm) fun i a b ha hb => ?_
          rw [List.getElem?_map] at ha hb
          obtain ⟨⟨k1, v1⟩, e1, rfl⟩ := Option.map_eq_some_iff.mp ha
          obtain ⟨en, e2, rfl⟩ := Option.map_eq_some_iff.mp hb
          rw [Array.getElem?_toList] at e2
          exact (at_ i k1 v1 en e1 e2).1
        · refine vals_of_get (by rw [List.length_map, List.length_map, hvl, ← hsz2]; exact (Array.length_toList).symm) fun i a b ha hb => ?_
          rw [List.getElem?_map] at ha hb
          obtain ⟨⟨k1, v1⟩, e1, rfl⟩ := Option.map_eq_some_iff.mp ha
          obtain ⟨en, e2, rfl⟩ := Option.map_eq_some_iff.mp hb
          rw [Array.getElem?_toList] at e2
          exact (at_ i k1 v1 en e1 e2).2
      | @dT a od kvs ks h3 h4 =>
        cases ru
        obtain ⟨rk, q⟩ := (show RepK ks ∧ Q (.str (kpy ks).shown) from hq)
        obtain ⟨hgd, z, hs, xs, pr, o', es, ep, ho, hx, hdt, he, _⟩ := I.hok a _ (j.ex _ _ h3)
        rw [hgd] at ho
        cases ho
        have hxl : kvs.length = xs.length := Paired.length pr
        have hel : es.size = xs.length := size_of_entries he
        have hkeys : es.toList.map (·.key) = (xs.map fun x => x.2.1).map Value.ref := by rw [he, List.map_map, List.map_map]; rfl
        obtain ⟨G2, g2, d2⟩ := Gr.tupKs j (qs := xs.map fun x => x.2.1) (kk := kvs.map (·.1)) (by rw [List.length_map, List.length_map]; exact hxl.symm) fun i q kk e1 e2 => by
          rw [List.getElem?_map] at e1 e2
          obtain ⟨⟨k1, v1⟩, e3, rfl⟩ := Option.map_eq_some_iff.mp e2
          obtain ⟨b, hb, r1, r2, r3⟩ := paired_get pr e3
          rw [hb] at e1
          cases e1
          exact r2
        rw [datT_keys h4] at d2
        refine fin rk q hs (reads_dict I g2.j.ex (kx := (xs.map fun x => x.2.1).map V.ref) (vx := kvs.map (·.2)) hgd hx hdt ?_ ?_ d2 ((datT_vals h4).mono g2.ex) rk)
        · rw [hkeys]
          exact vals_refs _
        · refine vals_of_get (by rw [List.length_map, List.length_map, hxl, ← hel]; exact (Array.length_toList).symm) fun i a b ha hb => ?_
          rw [List.getElem?_map] at ha hb
          obtain ⟨⟨k1, v1⟩, e1, rfl⟩ := Option.map_eq_some_iff.mp ha
          obtain ⟨en, e2, rfl⟩ := Option.map_eq_some_iff.mp hb
          obtain ⟨b, hb2, r1, r2, r3⟩ := paired_get pr e1
          rw [he, List.getElem?_map, hb2] at e2
          cases e2
          exact r3
      | _ => exact hq.elim
section
variable {Q : D → Prop} {ks ls : List (D × D)}
theorem z_reprD : cReprD [.dic ks] Q = (RepK ks ∧ Q (.str (kpy ks).shown)) := propext Iff.rfl
end
end
end DL
namespace DL
open PySem PySem.Spec PyProof.Rows L2 Evl
def cReprA : FD := fun ds Q => match ds with
  | [.dic ks] => cReprD [.dic ks] Q
  | ds => cRepr ds Q
section
variable {X : Cx} {B : Bx} {Q : D → Prop} {ks ls : List (D × D)} {xs : List D} {y : D}
theorem z_rpAd : cReprA [.dic ks] Q = cReprD [.dic ks] Q := propext Iff.rfl
theorem z_rpAl : cReprA [.lst xs] Q = cRepr [.lst xs] Q := propext Iff.rfl
theorem z_rpAt : cReprA [.tup xs] Q = cRepr [.tup xs] Q := propext Iff.rfl
theorem z_rpAi {i : Int} : cReprA [.int i] Q = cRepr [.int i] Q := propext Iff.rfl
theorem z_rpAs {i : Str} : cReprA [.str i] Q = cRepr [.str i] Q := propext Iff.rfl
theorem z_rpAb {i : Bool} : cReprA [.bl i] Q = cRepr [.bl i] Q := propext Iff.rfl
theorem z_rpAn : cReprA [.non] Q = cRepr [.non] Q := propext Iff.rfl
theorem call_reprA (hg : X.A.guards = some []) (hu : X.A.units + 70 < cLine) : CallR X (.builtin "repr") (cLift X.K B cReprA) := by
  intro pins s σ H vs us P I rv h
  obtain ⟨G, ds, Q, j, hd, hq, k⟩ := h
  by_cases e : ∃ ks, ds = [.dic ks]
  · obtain ⟨ks, rfl⟩ := e
    exact call_reprDD hg hu pins s σ H vs us P I rv ⟨G, _, Q, j, hd, hq, k⟩
  · refine call_repr_d hg hu pins s σ H vs us P I rv ⟨G, ds, Q, j, hd, ?_, k⟩
    match ds, e, hq with
    | [.dic ks], e, _ => exact absurd ⟨ks, rfl⟩ e
    | [], _, h => exact h
    | [.non], _, h => exact h
    | [.bl _], _, h => exact h
    | [.int _], _, h => exact h
    | [.str _], _, h => exact h
    | [.lst _], _, h => exact h
    | [.tup _], _, h => exact h
    | [.ktup _], _, h => exact h
    | [.obj _ _], _, h => exact h
    | [.bag], _, h => exact h
    | a :: b :: c, _, h => cases a <;> exact h
end
theorem room_u0 {k : Nat} {A : Around} (h : Room k A) : A.units < cLine := by have := h.un; omega
end DL
namespace DL
open PySem PySem.Spec PyProof.Rows L2 Evl
end DL
namespace DL
open PySem PySem.Spec PyProof.Rows L2 Evl
section
variable {K : PySem.W.Frag} {B : Bx} {G H G2 H2 : Hp}
theorem OwnT.gr {v : List (List Key × V)} {o : List (D × OD)} {f : List Addr} (h : OwnT K B G H v o f) (g : Gr K B G H G2 H2) (hf : ∀ p ∈ f, B.nb p) : OwnT K B G2 H2 v o f := h.keep g.ex (g.kept fun p hp => ⟨(h.node p hp).at, hf p hp⟩)
end
end DL
namespace L2
open PySem PySem.Spec PyProof.Rows
end L2
namespace DL
open PySem PySem.Spec PyProof.Rows L2 Evl
end DL
namespace L2
open PySem PySem.Spec PyProof.Rows
end L2
namespace DL
open PySem PySem.Spec PyProof.Rows L2 Evl
inductive Prs (K : PySem.W.Frag) (B : Bx) (G H : Hp) : List Addr → List (List Key × V) → List (D × OD) → List Addr → Prop
  | nil : Prs K B G H [] [] [] []
  | cons {t b : Addr} {k : List Key} {v : V} {o : OD} {f g : List Addr} {ts : List Addr} {kvs : List (List Key × V)} {os : List (D × OD)} : H t = some (.tup [.ref b, v]) → H b = some (.tup (k.map kV)) → Own K B G H v o f → Prs K B G H ts kvs os g → Prs K B G H (t :: ts) ((k, v) :: kvs) ((embT k, o) :: os) (f ++ g)
section
variable {K : PySem.W.Frag} {B : Bx} {G H G2 H2 : Hp}
theorem Prs.own : ∀ {ts : List Addr} {kvs : List (List Key × V)} {os : List (D × OD)} {f : List Addr}, Prs K B G H ts kvs os f → OwnT K B G H kvs os f
  | _, _, _, _, .nil => .nil
  | _, _, _, _, .cons _ _ h t => .cons h t.own
theorem Prs.len : ∀ {ts : List Addr} {kvs : List (List Key × V)} {os : List (D × OD)} {f : List Addr}, Prs K B G H ts kvs os f → ts.length = os.length
  | _, _, _, _, .nil => rfl
  | _, _, _, _, .cons _ _ _ t => by rw [List.length_cons, List.length_cons, t.len]
theorem Prs.keep (e : Ex G G2) (hk : ∀ a o, H a = some (.tup o) → H2 a = some (.tup o)) : ∀ {ts : List Addr} {kvs : List (List Key × V)} {os : List (D × OD)} {f : List Addr}, Prs K B G H ts kvs os f → Kept G H G2 H2 f → Prs K B G2 H2 ts kvs os f
  | _, _, _, _, .nil, _ => .nil
  | _, _, _, _, .cons h1 h2 h t, k => .cons (hk _ _ h1) (hk _ _ h2) (h.keep e k.l) (Prs.keep e hk t k.r)
theorem Prs.append : ∀ {ts us : List Addr} {kvs lvs : List (List Key × V)} {os ps : List (D × OD)} {f g : List Addr}, Prs K B G H ts kvs os f → Prs K B G H us lvs ps g → Prs K B G H (ts ++ us) (kvs ++ lvs) (os ++ ps) (f ++ g)
  | _, _, _, _, _, _, _, _, .nil, h => h
  | _, _, _, _, _, _, _, _, .cons h1 h2 h t, h3 => by
    rw [List.append_assoc]
    exact .cons h1 h2 h (t.append h3)
theorem Jn.noTup (j : Jn K B G H) {a : Addr} {o : List V} (e : H a = some (.tup o)) : B.st a := by
  refine ⟨fun z => ?_, fun t h z => ?_⟩
  · obtain ⟨_, _, _, _, ho, _⟩ := j.bag
    rw [← z, e] at ho
    cases ho
  · obtain ⟨⟨ps, h1, _⟩, _⟩ := j.xt.tb t h
    rw [← z, e] at h1
    cases h1
theorem Gr.keepT (j : Jn K B G H) (g : Gr K B G H G2 H2) : ∀ a o, H a = some (.tup o) → H2 a = some (.tup o) := fun a o e => g.kp a _ (j.noTup e) e
theorem Prs.gr {ts : List Addr} {kvs : List (List Key × V)} {os : List (D × OD)} {f : List Addr} (j : Jn K B G H) (h : Prs K B G H ts kvs os f) (g : Gr K B G H G2 H2) (hf : ∀ p ∈ f, B.nb p) : Prs K B G2 H2 ts kvs os f := h.keep g.ex (g.keepT j) (g.kept fun p hp => ⟨(h.own.node p hp).at, hf p hp⟩)
end
end DL
namespace DL
open PySem PySem.Spec PyProof.Rows L2 Evl
section
variable {X : Cx} {B : Bx} {K : PySem.W.Frag} {G H : Hp} {e : Expr} {ra : DE} {pos : Pos}
theorem Dats.reverse : ∀ {v : List V} {d : List D}, Dats K B G v d → Dats K B G v.reverse d.reverse
  | _, _, .nil => .nil
  | _, _, .cons h t => by
    rw [List.reverse_cons, List.reverse_cons]
    exact (Dats.reverse t).append (.cons h .nil)
end
end DL
namespace DL
open PySem PySem.Spec PyProof.Rows L2 Evl
end DL
namespace DL
open PySem PySem.Spec PyProof.Rows L2 Evl
end DL
namespace L2
open PySem PySem.Spec PyProof.Rows
end L2
namespace DL
open PySem PySem.Spec PyProof.Rows L2 Evl
end DL
namespace DL
open PySem PySem.Spec PyProof.Rows L2 Evl
end DL
namespace DL
open PySem PySem.Spec PyProof.Rows L2 Evl
end DL
namespace DL
open PySem PySem.Spec PyProof.Rows L2 Evl
end DL
namespace DL
open PySem PySem.Spec PyProof.Rows L2 Evl
section
variable {X : Cx} {B : Bx}
theorem scal_dats {K : PySem.W.Frag} {G G2 : Hp} : ∀ {vs : List V} {ds : List D}, Dats K B G vs ds → ds.all scal = true → Dats K B G2 vs ds
  | _, _, .nil, _ => .nil
  | _, _, .cons h t, s => by
    rw [List.all_cons, Bool.and_eq_true] at s
    exact .cons (scal_dat h s.1) (scal_dats t s.2)
end
end DL
namespace DL
open PySem PySem.Spec PyProof.Rows L2 Evl
end DL
namespace L2
open PySem PySem.Spec PyProof.Rows
section
variable {X : Cx} {pos : Pos} {k v : Expr} {tk tv : TE}
def tDispT (tk tv : TE) : TE := fun σ H Q => ∀ p, H p = none → tk σ (upd H p (.dT [])) fun y H1 => tv σ H1 fun x H2 => H2 p = some (.dT []) ∧ ∃ (kk : List Key) (b : Addr), y = .ref b ∧ H2 b = some (.tup (kk.map kV)) ∧ Q (.ref p) (upd H2 p (.dT [(kk, x)]))
theorem pe_dispT (hu : X.A.units < cLine) (hk : PE X k tk) (hv : PE X v tv) : PE X (.Dict [some k] [v] pos) (tDispT tk tv) := by
  refine ⟨fun pins s σ H Q I q => ?_⟩
  have hn := I.hok.fresh (Nat.le_refl s.heap.objs.size)
  have I1 := I.laid (a := s.heap.objs.size) (o := .dT []) (h' := s.heap.push { cls := .type "dict", data := .dict #[] }) (t' := s.toks) (fun _ _ q => Heap.get?_push_of_some _ q) (Nat.le_refl _) (dt_empty s.heap I.big)
  rw [PySem.arm_eval_Dict, zip_pairTrees [some k] [v] X.env pos rfl rfl, dictDisplay_pairs (pairTrees [some k] [v] X.env pos) (by intro z; have := congrArg List.length z; rw [pairTrees_length [some k] [v] X.env pos rfl rfl] at this; simp at this) (by rw [pairTrees_length [some k] [v] X.env pos rfl rfl]; exact (by decide : 1 < 17))]
  refine wpAny_bind (wpAny_standAt (wpAny_bind (PySem.wpAny_subDictH (knd := tupleKind (mixKind X.prog X.w)) hu (by rw [pairTrees_length [some k] [v] X.env pos rfl rfl]; exact (by decide : 1 ≤ 15)) ?_)))
  refine pairTrees_cons_walk (thn (hk.run pins _ σ _ _ I1 (q _ hn)) fun u s1 ⟨y, H1, I2, ry, q1⟩ => thn (hv.run pins s1 σ H1 _ I2 q1) fun w s2 ⟨x, H2, I3, rx, q2⟩ => pairTrees_nil_walk ?_)
  obtain ⟨e, kk, b, ey, eb, q3⟩ := q2
  subst ey
  cases (show u = Value.ref b from ry)
  obtain ⟨z, hd, xs, rel, dd⟩ := dt_of I3.hok e
  have hx : xs = [] := by cases rel; rfl
  subst hx
  refine ⟨[(kk, b, w)], ⟨rfl, rfl, key_of I3.hok eb, trivial⟩, dd, fun h' tk' dd' hs => wpAny_pure ⟨.ref s.heap.objs.size, _, ?_, rfl, q3⟩⟩
  obtain ⟨q, es, ep, hq, h2, h3, h4, _, h5⟩ := dd'
  refine d_write I3 (by rw [e]; exact True.intro) hs ⟨q, hq⟩ ⟨by rw [sizeLine_eq]; show 1 ≤ _; decide, hd, _, (KT.put rel kk eb rx).keeps fun c ys ec => ?_, q, es, ep, hq, h2, h3, h4, h5⟩
  rw [upd_ne (ne_of ec e (fun z => nomatch z))]
  exact ec
end
end L2
namespace DL
open PySem PySem.Spec PyProof.Rows L2 Evl PySem.W
def dDic0 : DE := fun _ Q => Q (.dic [])
def dDic1 (rk rv : DE) : DE := fun δ Q => rk δ fun y => rv δ fun d => (dk1 y).isSome = true ∧ Q (.dic [(y, d)])
def dDicT1 (rk rv : DE) : DE := fun δ Q => rk δ fun y => rv δ fun d => (dkT y).isSome = true ∧ Q (.dic [(y, d)])
section
variable {X : Cx} {B : Bx} {pos : Pos} {k v : Expr} {rk rv : DE}
theorem pd_dic0 : PD X B (.Dict [] [] pos) dDic0 := by
  refine pe_lockR pe_dnewK fun σ H P q p hp => ?_
  obtain ⟨H0, G, δ, Q, j, st, hr, k⟩ := q
  have g1 : Gr X.K B G H G (upd H p (.dK [])) := Gr.new0 j hp
  have nb : B.nb p := Gr.neB j hp
  have gp : G p = none := fresh_back j.ex hp
  refine ⟨p, _, upd_same, trivial, fun od => ?_⟩
  have g2 : Gr X.K B G H G (upd (upd H p (.dK [])) p (.frz od (.dK []))) := g1.own hp gp nb
  exact k _ _ _ _ hr (g2.frz hp gp nb upd_same) (.dK upd_same .nil)
theorem pd_dic1 (hk : PD X B k rk) (hv : PD X B v rv) : PD X B (.Dict [some k] [v] pos) (dDic1 rk rv) := by
  refine pe_lockR (pe_disp (pps_cons hk hv pps_nil) rfl rfl (by simp) (Nat.le_of_ble_eq_true rfl)) fun σ H P q p hp => ?_
  obtain ⟨H0, G, δ, Q, j, st, hr, k⟩ := q
  have g1 : Gr X.K B G H G (upd H p (.dK [])) := Gr.new0 j hp
  have nb : B.nb p := Gr.neB j hp
  have gp : G p = none := fresh_back j.ex hp
  have hpn : Mu (upd H p (.dK [])) p := ⟨_, upd_same, nl rfl⟩
  refine ⟨H0, G, δ, _, g1.j, st.gr g1, hr, fun y u G2 H2 q2 g2 d2 => ?_⟩
  refine ⟨H0, G2, δ, _, g2.j, (st.gr g1).gr g2, q2, fun d w G3 H3 q3 g3 d3 => ?_⟩
  obtain ⟨kf, q3⟩ := q3
  obtain ⟨kk, ek⟩ := Option.isSome_iff_exists.mp kf
  have e2 : H2 p = some (.dK []) := g2.keep p _ nb upd_same
  have e3 : H3 p = some (.dK []) := g3.keep p _ nb e2
  have gp2 : G2 p = none := by rw [g2.old p hpn]; exact gp
  have gp3 : G3 p = none := by rw [g3.old p ⟨_, e2, nl rfl⟩]; exact gp2
  refine ⟨e3, [(kk, w)], by rw [keyV d2 ek]; rfl, Nat.le_of_ble_eq_true rfl, ?_⟩
  show ∃ d u, _
  have em : mergeK [] [(kk, w)] = [(kk, w)] := rfl
  rw [em]
  refine ⟨p, _, upd_same, trivial, fun od => ?_⟩
  have g4 : Gr X.K B G H G3 (upd (upd H3 p (.dK [(kk, w)])) p (.frz od (.dK [(kk, w)]))) := (((g1.trans g2).trans g3).own hp gp3 nb).own hp gp3 nb
  refine k _ _ _ _ q3 (g4.frz hp gp3 nb upd_same) (.dK upd_same ?_)
  have ey := emb_dk1 ek
  subst ey
  cases kk with
  | inl i => exact .consI (d3.mono (Ex.new gp3)) .nil
  | inr i => exact .consS (d3.mono (Ex.new gp3)) .nil
theorem pd_dicT1 (hu : X.A.units < cLine) (hk : PD X B k rk) (hv : PD X B v rv) : PD X B (.Dict [some k] [v] pos) (dDicT1 rk rv) := by
  refine pe_lockR (pe_dispT hu hk hv) fun σ H P q p hp => ?_
  obtain ⟨H0, G, δ, Q, j, st, hr, k⟩ := q
  have g1 : Gr X.K B G H G (upd H p (.dT [])) := Gr.new0 j hp
  have nb : B.nb p := Gr.neB j hp
  have gp : G p = none := fresh_back j.ex hp
  have hpn : Mu (upd H p (.dT [])) p := ⟨_, upd_same, nl rfl⟩
  refine ⟨H0, G, δ, _, g1.j, st.gr g1, hr, fun y u G2 H2 q2 g2 d2 => ?_⟩
  refine ⟨H0, G2, δ, _, g2.j, (st.gr g1).gr g2, q2, fun d w G3 H3 q3 g3 d3 => ?_⟩
  obtain ⟨kf, q3⟩ := q3
  obtain ⟨kk, ek⟩ := Option.isSome_iff_exists.mp kf
  have e2 : H2 p = some (.dT []) := g2.keep p _ nb upd_same
  have e3 : H3 p = some (.dT []) := g3.keep p _ nb e2
  have gp2 : G2 p = none := by rw [g2.old p hpn]; exact gp
  have gp3 : G3 p = none := by rw [g3.old p ⟨_, e2, nl rfl⟩]; exact gp2
  obtain ⟨b, eu, gb⟩ := keyT d2 ek
  refine ⟨e3, kk, b, eu, g3.j.ex b _ (g3.ex b _ gb), ?_⟩
  refine ⟨p, _, upd_same, trivial, fun od => ?_⟩
  have g4 : Gr X.K B G H G3 (upd (upd H3 p (.dT [(kk, w)])) p (.frz od (.dT [(kk, w)]))) := (((g1.trans g2).trans g3).own hp gp3 nb).own hp gp3 nb
  refine k _ _ _ _ q3 (g4.frz hp gp3 nb upd_same) (.dT upd_same ?_)
  have ey := emb_dkT ek
  subst ey
  exact .cons (d3.mono (Ex.new gp3)) .nil
end
section
variable {δ : DS} {Q : D → Prop} {rk rv : DE} {d y : D}
theorem z_dic0 : dDic0 δ Q = Q (.dic []) := propext Iff.rfl
theorem z_dic1 : dDic1 rk rv δ Q = rk δ fun y => rv δ fun d => (dk1 y).isSome = true ∧ Q (.dic [(y, d)]) := propext Iff.rfl
theorem z_dicT1 : dDicT1 rk rv δ Q = rk δ fun y => rv δ fun d => (dkT y).isSome = true ∧ Q (.dic [(y, d)]) := propext Iff.rfl
end
end DL
namespace DL
open PySem PySem.Spec PyProof.Rows L2 Evl
end DL
namespace PySem.W
open PySem PySem.Spec PyProof.Rows
end PySem.W
namespace DL
open PySem PySem.Spec PyProof.Rows L2 Evl PySem.W
end DL
namespace L2
open PySem PySem.Spec PyProof.Rows
end L2
namespace DL
open PySem PySem.Spec PyProof.Rows L2 Evl
end DL
namespace L2
open PySem PySem.Spec PyProof.Rows
section
variable {X : Cx} {e a b : Expr} {t t' ta tb te : TE} {pos : Pos}
theorem PSsT.nox {st : List Stmt} {t : TS} (h : PSsT X.nox st t) : PSsT X st t := fun pins s σ H D h0 I hw =>
  wpAny_mono (h pins s σ H D h0 (I.wish _) hw) (fun _ _ q => q.unwish) fun _ _ z => False.elim z
end
end L2
namespace DL
open PySem PySem.Spec PyProof.Rows L2 Evl
end DL
namespace DL
open PySem PySem.Spec PyProof.Rows L2 Evl
end DL
namespace DL
open PySem PySem.Spec PyProof.Rows L2 LamX NdefX
section
variable {prog : Program} {w : World} {A : Around} {E : Value → Shared → Prop} {h : Heap} {g : Array GenState} {d : Drawn} {t : Nat} {os : OsState}
variable {nm q : Str} {C N : Addr} {bs bm : List Value} {hdct : Bool} {sn : List Str} {sub : List Value} {ab : Bool} {col : Option Bool} {dd : Option Addr} {k0 k1 k2 k3 k5 : Option Value}
theorem call_mw {u e t0 : Addr} {rest : List Value} {Q : Value → Shared → Prop}
    (hC : h.get? C = some (excClassObj nm q C N bs bm hdct sn sub ab col dd k0 k1 k2 k3 k5 "ValueError.__new__")) (he : h.get? e = some (PySem.W.excObj C t0 none .none)) (hu : h.get? u = some (PySem.W.kxs_mw "ValueError.__init__" e)) (hrest : rest.length ≤ sizeLine)
    (hq : ∀ h' t1, (∀ b o, b ≠ e → h.get? b = some o → h'.get? b = some o) → h'.get? e = some (PySem.W.excObj C t1 none .none) → Q .none ⟨h', g, d, t, os⟩) :
    wpAny (model prog w) A (call (.ref u) rest) Q E ⟨h, g, d, t, os⟩ := by
  refine wpAny_call (codeAny_of_tree ?_)
  show wpAny _ A.in1 (callAny (.ref u) ⟨rest, []⟩) _ _ _
  simp only [callAny]
  refine wpAny_bind (wpAny_load hu ?_)
  simp only [PySem.W.kxs_mw, show (Value.type "method-wrapper" == Value.type "method" || Value.type "method-wrapper" == Value.type "builtin_function_or_method" || Value.type "method-wrapper" == Value.type "method-wrapper") = true by decide, if_true]
  refine PySem.W.KFB.if_so (by decide) ?_
  refine wpAny_bind (PySem.W.check_bound_init F.excBase_ValueError.toExcCallFacts hC he rfl ?_)
  refine wpAny_bind (wpAny_pure (wpAny_pure ?_))
  refine ⟨plainId_quiet F.excBase_ValueError.init.plain _, codeAny_builtin F.excBase_ValueError.initEntry ?_⟩
  exact PySem.W.exc_init_tree (cls := .ref C) (t0 := t0) (dv := none) (c2 := .none) (c3 := .none) (b4 := .bool false) he hrest fun h' k e' _ => hq h' _ k e'
end
/-- the promise of such an __init__ -/
def spEI (C : Addr) (fld : Str) : Sp := fun vs H Q _ => ∃ (a : Addr) (y : V), vs = [.ref a, y] ∧ H a = some (exo a C none) ∧ ∀ dx, H dx = none → dx ≠ a → Q .non (upd (upd H dx (exd dx [(fld, y)])) a (exo a C (some dx)))
/-- what the written part says of it -/
structure XIn (P : Program) (K : PySem.W.Frag) (mg : Str → Option Value) (C f cc cda : Addr) (fld : Str) : Prop where
  oex : OexC K C
  cell : ∃ cl cld csl, K.lookup cc = some ⟨cl, cld, .cell (some (.ref C)), csl⟩
  code : ∃ ccl cdd vs ccs file tf, K.lookup cda = some ⟨ccl, cdd, .fields vs, ccs⟩ ∧ vs[2]? = some (.str file tf) ∧ ((P.main.file : Str) == file) = true
  cls : ∃ cd, PySem.W.clsIn K C = some cd
  sub : PySem.W.mroIn K C (.ref C) = some true
  sup : mg "super" = none
  ini : PySem.W.ks_superIn K C C "__init__" = some (some (.builtin "ValueError.__init__"))
  subV : PySem.W.subIn K (.ref C) (.type "ValueError") = some true
  any : PySem.W.nsIn K cStatics "thirdparty.any" = some none
  nofld : PySem.W.findIn K (.ref C) fld = some none
  top : (P.main.scope.names.lookup ("super" : Str)).isSome = false
theorem exinit_ok {P : Program} {w : World} {K : PySem.W.Frag} {mg : Str → Option Value} {base : Heap} {CX : CXT} {k : Nat} {C f cc cda : Addr} {name qual fld par msg : Str} {params : Arguments} {scope : Scope} {dV kV doc pm ct oc : Value} {an od : Option Addr} {osl : Array (Option Value)} {ar : Arg}
    {p0 p1 p2 p3 p4 p5 p6 p7 p8 p9 : Pos} {j : Nat} (XI : XIn P K mg C f cc cda fld)
    (lk : K.lookup f = some ⟨oc, od, .func (PySem.W.ksFn name qual params
      [.Expr (.Call (.Attribute (.Call (.Name "super" p0) [] [] p1) "__init__" p2) [.Constant (.str msg) j p3] [] p4) p5, .Assign [.Attribute (.Name "self" p6) fld p7] (.Name par p8) p9] scope dV kV doc pm an (.ref cda) ct cc), osl⟩)
    (hcd : PySem.W.codeIn K (.ref cda) qual = true) (S : NScope ["self", par, "__class__"] ["self", par] ["__class__"] scope)
    (hp : (params.posonlyargs ++ params.args).head? = some ar) (har : ar.arg = "self") (hks : scope.names.lookup ("super" : Str) = some .globalImplicit) (hpd : (par == ("__debug__" : Str)) = false) (hpc : (par == ("__classdict__" : Str)) = false) (hps : par ≠ "self") {pl : Sem Bool}
    (he : ∀ L, eval (.Call (.Attribute (.Call (.Name "super" p0) [] [] p1) "__init__" p2) [.Constant (.str msg) j p3] [] p4) (PySem.W.ksEnv qual scope L f (.ref cda) cc) = (do
      let ov ← attributeBase (.Call (.Name "super" p0) [] [] p1) "__init__" (PySem.W.ksEnv qual scope L f (.ref cda) cc) (eval (.Call (.Name "super" p0) [] [] p1) (PySem.W.ksEnv qual scope L f (.ref cda) cc))
      standAt p2.atName
      let (fv, first) ← holding [ov] (getMethod ov "__init__" pl)
      callWith p4 fv first (backTo p4 (starEach [.Constant (.str msg) j p3] (PySem.W.ksEnv qual scope L f (.ref cda) cc))) []))
    (hs0 : ∀ L, swapsWith (.Call (.Attribute (.Call (.Name "super" p0) [] [] p1) "__init__" p2) [.Constant (.str msg) j p3] [] p4) none p5.line (PySem.W.ksEnv qual scope L f (.ref cda) cc) = pure false)
    (hs1 : ∀ L, swapsWith (.Name par p8) (some (.Attribute (.Name "self" p6) fld p7)) p9.line (PySem.W.ksEnv qual scope L f (.ref cda) cc) = pure false) :
    FnOk P w K mg base CX (k + 1) f (PySem.W.ksFn name qual params
      [.Expr (.Call (.Attribute (.Call (.Name "super" p0) [] [] p1) "__init__" p2) [.Constant (.str msg) j p3] [] p4) p5, .Assign [.Attribute (.Name "self" p6) fld p7] (.Name par p8) p9] scope dV kV doc pm an (.ref cda) ct cc) ["self", par] (spEI C fld) := by
  refine ⟨fun vs H Q E ⟨a, y, e, _⟩ => by rw [e]; rfl, fun A fr s H args us vs Q E hr e0 hb rel hsp => ?_⟩
  obtain ⟨a, y, rfl, ea, hq⟩ := hsp
  have inK : K.In s.heap := e0.mod.kin.keeps fun b o z => (e0.bs b o z).1
  have lim : s.heap.NoLimit := e0.mod.nolimit.keeps fun b o z => (e0.bs b o z).1
  obtain ⟨cl, cld, csl, hcell⟩ := XI.cell
  obtain ⟨ccl, cdd, cvs, ccs, file, tf, hcode, hvs, hfile⟩ := XI.code
  obtain ⟨cdC, hclC⟩ := XI.cls
  have hcb : base.get? cc = some ⟨cl, cld, .cell (some (.ref C)), csl⟩ := e0.mod.kin _ _ hcell
  have Cl : CellsAt [("__class__", cc)] ["__class__"] [none] s.heap H := {
    len := rfl
    all := fun z c hz => by
      have : c = cc := by
        simp only [List.lookup] at hz
        split at hz
        · cases hz; rfl
        · cases hz
      subst this
      exact ⟨(e0.bs _ _ hcb).2, some (.ref C), _, (e0.bs _ _ hcb).1, rfl⟩
    inj := fun z1 z2 c h1 h2 => by
      simp only [List.lookup] at h1 h2
      split at h1
      · rename_i a1
        split at h2
        · rename_i a2
          simp_all
        · cases h2
      · cases h1
    has := fun i z hz => by
      cases i with
      | zero => cases hz; exact ⟨cc, by simp [List.lookup], fun v hv => by cases hv⟩
      | succ i => cases hz }
  refine PySem.ks_codeAny_call_defAt hr.depth (inK _ _ lk) rfl lim (PySem.W.codeRec_of inK hcd) rfl hb S.nocell (fun ⟨n, _⟩ hy => S.par n (List.of_mem_zip hy).1) (fun h₁ hns kp => ?_) S.co S.gen S.kind
  have u12 : ∃ u, us = [.ref a, u] ∧ RelV y u := by
    cases rel with
    | cons h1 h2 =>
      cases h2 with
      | cons h3 h4 =>
        cases h4
        cases h1
        exact ⟨_, rfl, h3⟩
  obtain ⟨u, rfl, ry⟩ := u12
  have I : Inv (ncx CX P w K mg base ["self", par, "__class__"] ⟨name, qual, params, _, scope, [("__class__", cc)], cda⟩ f A fr s H E) [] (startF ["self", par, "__class__"] [.ref a, y] [none]) H { s with heap := h₁, toks := s.toks + ((["self", par] : List Str).zip [Value.ref a, u]).length } :=
    inv_startN (F := ⟨name, qual, params, [.Expr (.Call (.Attribute (.Call (.Name "super" p0) [] [] p1) "__init__" p2) [.Constant (.str msg) j p3] [] p4) p5, .Assign [.Attribute (.Name "self" p6) fld p7] (.Name par p8) p9], scope, [("__class__", cc)], cda⟩) S hr.hd e0 rfl rel Cl hns kp
  have XK : K.In h₁ := I.kIn
  obtain ⟨t0, hx⟩ := exo_at I.hok ea
  generalize hL : s.heap.objs.size = L at *
  have hi : interactive (PySem.W.ksEnv qual scope L f (.ref cda) cc) = false := by
    have z : scope.kind = .function := S.kind
    show (scope.kind == .module && _) = false
    rw [z]
    rfl
  refine PySem.ks_wpAt_execs_cons (PySem.ks_wpAt_Expr_any (PySem.ks_wpAt_MethodCall (pl := pl) ?_ (he L)) hi (hs0 L))
  have kindS : (PySem.W.ksEnv qual scope L f (.ref cda) cc).kindOf "super" = some .globalImplicit := hks
  have kindC : (PySem.W.ksEnv qual scope L f (.ref cda) cc).kindOf "__class__" = some .free := S.frk _ List.mem_cons_self
  have kindSelf : (PySem.W.ksEnv qual scope L f (.ref cda) cc).kindOf "self" = some .local := S.par _ List.mem_cons_self
  obtain ⟨mb, hb1, hb2⟩ := e0.mod.blt
  have sup : bootBuiltins "super" = some (.type "super") := PyProof.Rows.Boot.«super»
  refine PySem.ks_wpAt_super_base (ar := ar) kindS kindC (by decide) rfl (XK _ _ lk) rfl hp rfl (XK _ _ hcode) rfl hvs hfile XI.top ?_
  refine PySem.W.ks_loadName_global S.kind kindS ?_
  have bk : ∀ b o, base.get? b = some o → h₁.get? b = some o := fun b o z => kp b o (e0.bs b o z).1
  refine PySem.Calls.loadGlobal_builtin (mg := mg) (mb := mb) (e0.mod.glob.keeps bk) XI.sup (hb1.keeps bk) ((hb2 _ (by decide)).trans sup) ⟨rfl, ?_⟩
  refine wpAny_loadName_free S.kind kindC rfl ⟨_, XK _ _ hcell, rfl⟩ ?_
  rw [har]
  have hself : List.lookup ("self" : Str) (([(("self" : Str), Value.ref a), (par, u)] : List (Str × Value)).reverse) = some (Value.ref a) := by
    show List.lookup ("self" : Str) [(par, u), (("self" : Str), Value.ref a)] = _
    rw [List.lookup_cons, beq_eq_false_iff_ne.mpr (Ne.symm hps)]
    simp [List.lookup]
  refine wpAny_loadName_local S.kind kindSelf hns hself ?_
  obtain ⟨oD, hD1, hD2⟩ : ∃ oD, h₁.get? C = some oD ∧ oD.data = .cls cdC := by
    have hD := hclC
    unfold PySem.W.clsIn at hD
    split at hD
    · rename_i c d cd' sl ho
      cases hD
      exact ⟨_, XK _ _ ho, rfl⟩
    · cases hD
  refine PySem.ks_wpAny_isType_cls hD1 hD2 ⟨rfl, ?_⟩
  refine PySem.ks_wpAny_call_super hD1 hD2 hx rfl (fun c e => by cases e) (PySem.W.looks_mroIn XK XI.sub) (fun h2 hso k2 => ?_)
  have XK2 : K.In h2 := fun b o z => k2 _ _ (XK b o z)
  have hx2 := k2 _ _ hx
  have inst : PySem.W.InstAt h2 a _ C none := ⟨hx2, rfl, rfl, trivial⟩
  have hini := XI.ini
  unfold PySem.W.ks_superIn at hini
  rw [hclC] at hini
  refine PySem.W.kxs_getMethod PySem.W.kxs_ValueError hso (PySem.W.looks_opaque XK2 XI.any) (l₀ := cdC.mro) (fun A Q E s k q => wpAny_bind ((PySem.W.looks_clsIn XK2 hclC) A _ E s k (wpAny_pure q))) rfl XK2 hini (inst.type.andThen (PySem.W.looks_subIn XK2 XI.subV)) (PySem.W.ks_ne XK2 inst hclC) (by decide) ?_
  refine PySem.W.kxs_callWith (i := "ValueError.__init__") (x := a) rfl ?_
  show wpAny _ _ (evalArgs (.ref h2.objs.size) true ((false, eval (.Constant (.str msg) j p3) (PySem.W.ksEnv qual scope L f (.ref cda) cc)) :: []) []) _ _ _
  refine PySem.Calls.evalArgs_plain ?_
  refine PySem.Calls.spliced_cons ?_
  refine PySem.Calls.Constant_str (pos := p3) ?_
  refine PySem.Calls.spliced_nil ⟨Heap.get?_push_size _ rfl, ?_⟩
  obtain ⟨cnm, cq, cN, cbs, cbm, csn, csub, cab, ccol, cdd2, ck0, ck1, ck2, ck3, ck5, hC, hbm⟩ := XI.oex.cls
  have k4 : ∀ b o, h₁.get? b = some o → (h2.push (PySem.W.kxs_mw "ValueError.__init__" a)).get? b = some o := fun b o z => Heap.get?_push_of_some _ (k2 _ _ z)
  refine call_mw (k4 _ _ (XK _ _ hC)) (k4 _ _ hx) (Heap.get?_push_size _ rfl) (by rw [sizeLine_eq]; show 1 ≤ 16777216; omega) (fun h3 t1 k3 hx3 => ?_)
  refine wpAt_of_wpAny ?_
  have J0 := I.kept (t' := s.toks) k4
  have J1 := J0.write (t' := s.toks) (x := a) (e := a) (o := exo a C none) (h' := h3) (by rw [ea]; exact True.intro) (.inl rfl) k3 ⟨_, hx3⟩ (exo_ok hx3)
  have eu : upd H a (exo a C none) = H := by
    funext b
    by_cases hb : b = a
    · rw [hb, upd_same, ea]
    · rw [upd_ne hb]
  rw [eu] at J1
  subst hL
  have st := pss_one (ps_ost (X := ncx CX P w K mg base ["self", par, "__class__"] ⟨name, qual, params, [.Expr (.Call (.Attribute (.Call (.Name "super" p0) [] [] p1) "__init__" p2) [.Constant (.str msg) j p3] [] p4) p5, .Assign [.Attribute (.Name "self" p6) fld p7] (.Name par p8) p9], scope, [("__class__", cc)], cda⟩ f A fr s H E)
    (f := fld) (p' := p7) (pos := p9) (pe_var (i := 0) (x := "self") (pos := p6) rfl (.inl kindSelf)) (pe_var (i := 1) (x := par) (pos := p8) rfl (.inl (S.par _ (by simp))) hpd hpc) (hs1 _))
  refine wpAny_mono (st.run [] _ _ H { nx := fun _ H' => Q .non H', rt := Q } (J1.tok _) ⟨y, rfl, .ref a, rfl, a, C, rfl, XI.oex, XI.nofld, .inl ⟨ea, fun dx n ne => hq dx n ne⟩⟩) (fun fl s' hs => ?_) (fun e s' hs => hs)
  cases fl with
  | ret v =>
    obtain ⟨v, σ', H', J, rv, q⟩ := hs
    exact ⟨v, H', J.os, J.bare, J.base, J.hok, rv, q⟩
  | next =>
    obtain ⟨σ', H', J, q⟩ := hs
    exact ⟨V.non, H', J.os, J.bare, J.base, J.hok, rfl, q⟩
  | brk =>
    obtain ⟨_, _, _, q⟩ := hs
    exact False.elim q
  | cont =>
    obtain ⟨_, _, _, q⟩ := hs
    exact False.elim q
end DL
namespace DL
open PySem PySem.Spec PyProof.Rows L2 Evl
/-- the wish about exceptions: the class's number, the field's name, what it holds -/
abbrev XW := Nat → Str → D → Prop
def XL (K : PySem.W.Frag) (B : Bx) (Wx : XW) : XK := fun cls d H' => ∃ (G' : Hp) (c : Nat) (f : Str) (y : D) (v : V) (dd : Addr), Wx c f y ∧ Jn K B G' H' ∧ cls = .ref (B.ct c) ∧ d = some dd ∧ H' dd = some (.xd [(f, v)]) ∧ Dat K B G' v y
/-- the context takes these -/
def TkX (X : Cx) (B : Bx) (Wx : XW) : Prop := ∃ W : WX, Takes X W ∧ ∀ cls d σ H, XL X.K B Wx cls d H → W cls d σ H
theorem passX {X : Cx} {B : Bx} {Wx : XW} (tk : TkX X B Wx) : Passes (L2.CX X.prog X.w) X (XL X.K B Wx) := by
  obtain ⟨W, t, h⟩ := tk
  exact passes_call t h
theorem XL.imp {K : PySem.W.Frag} {B : Bx} {Wx W2 : XW} (h : ∀ c f y, Wx c f y → W2 c f y) {cls : Value} {d : Option Addr} {H : Hp} (x : XL K B Wx cls d H) : XL K B W2 cls d H := by
  obtain ⟨G', c, f, y, v, dd, a, b⟩ := x
  exact ⟨G', c, f, y, v, dd, h _ _ _ a, b⟩
section
variable {X : Cx} {B : Bx} {Wx : XW} {e o : Expr} {es : List Expr} {r : DE} {pos : Pos} {C k k' i : Nat} {S : FD} {ra : DA} {f m : Str} {g : Addr}
/-- raise C(e) -/
def dRaise (Wx : XW) (c : Nat) (f : Str) (r : DE) : DTS := fun _ δ => r δ fun d => Wx c f d
theorem psd_raise {x fld : Str} {fI : Addr} {fd : FuncData} {ps : List Str} {p : Pos} {pos2 : Pos} (hc : X.calm = true) (tk : TkX X B Wx) (T : OexC X.K (B.ct C)) (iC : PySem.W.findIn X.K (.ref (B.ct C)) "__init__" = some (some (.ref fI))) (tI : PySem.W.typeIn X.K (.ref fI) = some (.type "function"))
    (F1 : FnOk X.prog X.w X.K X.mg X.base CX0 k fI fd ps (spEI (B.ct C) fld)) (hb : Binds X.K fd ps []) (hr : Room (k + 1) X.A) (hg : Gl X x) (hm : X.mg x = some (.ref (B.ct C))) (he : PD X B e r) (hz : starEach [] X.env = [] := by rfl)
    (hdb : (x == ("__debug__" : Str)) = false := by decide) (hst : starEach [e] X.env = (false, eval e X.env) :: starEach [] X.env := by rfl) (hpl : (backTo pos (starEach [] X.env)).any (·.1) = false := by rfl) :
    PSD X B (.Raise (some (.Call (.Name x p) [e] [] pos)) none pos2) (dRaise Wx C fld r) := by
  obtain ⟨W, t, hW⟩ := tk
  refine ps_mono (ps_raise hc t (pmk_oex T iC tI F1 hr hb .nil pass0 hg hm (pa_cons he pa_nil hst) hdb hst hpl)) fun E σ H q => ?_
  obtain ⟨G0, H0, G, δ, Wd, g0, st, h, kk⟩ := q
  refine ⟨H0, G, δ, _, g0.j, st, h, fun d v G2 H2 q2 g2 h2 => ?_⟩
  show [v].length ≤ 1000 ∧ _
  refine ⟨by show 1 ≤ 1000; omega, fun a ha => ⟨a, v, rfl, upd_same, fun dx hdx ne => ⟨rfl, dx, [(fld, v)], upd_same, by rw [upd_ne ne, upd_same], ?_, ?_⟩⟩⟩
  · rw [upd_ne ne] at hdx
    exact hdx
  · rw [upd_ne ne] at hdx
    refine hW _ _ _ _ ?_
    have eh : upd (del (upd (upd (upd H2 a (exo a (B.ct C) none)) dx (exd dx [(fld, v)])) a (exo a (B.ct C) (some dx))) a) dx (.xd [(fld, v)]) = upd H2 dx (.xd [(fld, v)]) := by
      funext b
      by_cases h1 : b = dx
      · subst h1; rw [upd_same, upd_same]
      · rw [upd_ne h1, upd_ne h1]
        by_cases h3 : b = a
        · subst h3; rw [del_same, ha]
        · rw [del_ne h3, upd_ne h3, upd_ne h1, upd_ne h3]
    rw [eh]
    exact ⟨G2, C, fld, d, v, dx, q2, (Gr.new0 g2.j hdx).j, rfl, rfl, upd_same, h2⟩
end
end DL
namespace DL
open PySem PySem.Spec PyProof.Rows L2 Evl
def spIX (K : PySem.W.Frag) (B : Bx) (C : Nat) (Wx : XW) (S : FI) : Sp := fun vs H P E => spI K B C S vs H P E ∧ ∀ cls d H', XL K B Wx cls d H' → E cls d H'
section
variable {X : Cx} {B : Bx} {Wx : XW} {e : Expr} {es : List Expr} {pos : Pos} {g : Addr} {k C : Nat} {x : Str} {ra : DA} {S : FI}
theorem pd_makeX {fp : Pos} (tk : TkX X B Wx) (M : Mk X.K (B.ct C) g) (F : FnR X.prog X.w X.K X.mg X.base (L2.CX X.prog X.w) k g (spIX X.K B C Wx S)) (hr : Room (k + 1) X.A) (hg : Gl X x) (hm : X.mg x = some (.ref (B.ct C))) (ha : PAD X B (e :: es) ra) (hdb : (x == ("__debug__" : Str)) = false := by decide)
    (he : starEach (e :: es) X.env = (false, eval e X.env) :: starEach es X.env := by rfl) (hpl : (backTo pos (starEach es X.env)).any (·.1) = false := by rfl) : PD X B (.Call (.Name x fp) (e :: es) [] pos) (dMake C S ra) := pe_mono (StX.pe_makeR (E := XL X.K B Wx) M F hr hg hm (passX tk) ha hdb he hpl) fun σ H P q => by
  obtain ⟨H0, G, δ, Q, j, st, hr, k⟩ := q
  refine ⟨H0, G, δ, _, j, st, hr, fun ds vs G2 H2 q2 g2 h2 y dx hy hdx ne => ?_⟩
  have gy : G2 y = none := fresh_back g2.j.ex hy
  have gd : G2 dx = none := fresh_back g2.j.ex hdx
  have j1 : Jn X.K B G2 (upd (upd H2 dx (.own y)) y (.ins (B.ct C) dx [])) := by
    have a := Gr.new0 (o := .own y) g2.j hdx
    exact (Gr.new0 (o := .ins (B.ct C) dx []) a.j (by rw [upd_ne (Ne.symm ne)]; exact hy)).j
  have eh : hid2 (upd (upd H2 dx (.own y)) y (.ins (B.ct C) dx [])) y dx = H2 := by
    funext b
    unfold hid2
    by_cases h1 : b = y
    · subst h1; rw [if_pos (.inl rfl), hy]
    · by_cases h3 : b = dx
      · subst h3; rw [if_pos (.inr rfl), hdx]
      · rw [if_neg (fun z => z.elim h1 h3), upd_ne h1, upd_ne h3]
  refine ⟨⟨y, dx, vs, G2, ds, _, rfl, upd_same, by rw [upd_ne ne, upd_same], ne, gy, gd, j1, Gr.neB g2.j hy, Gr.neB g2.j hdx, h2, q2, fun fs us dy G3 H3 q3 g3 z1 z2 z3 z4 z5 z6 z7 z8 => ⟨rfl, ?_⟩⟩, fun _ _ _ h => h⟩
  rw [eh] at g3 z6
  have g4 := g3.frz (p := dy) z6 z5 z7 z2
  have g5 := g4.frz (p := y) hy (by rw [upd_ne (Ne.symm z3)]; exact z4) (Gr.neB g2.j hy) z1
  have e5 : Ex G3 (upd (upd G3 dy (.xd [])) y (SlX.SlO y (B.ct C) dy (us.map some))) := (Ex.new z5).trans (Ex.new (by rw [upd_ne (Ne.symm z3)]; exact z4))
  exact k _ _ _ _ q3 (g2.trans g5) (.obj upd_same (by rw [upd_ne z3, upd_same]) (z8.mono e5))
end
end DL
namespace DL
open PySem PySem.Spec PyProof.Rows L2 Evl
def rIsD (K : PySem.W.Frag) (D a dd : Addr) : List V → Hp → VK → Prop := fun xs H Q => ∃ (c : V) (cv : Value) (b : Bool) (fs : List (Str × V)), xs = [.ref a, c] ∧ (∀ u, RelV c u → u = cv) ∧ PySem.W.kitOne K (.ref D) cv = some b ∧ H dd = some (.xd fs) ∧ Q (.bl b) H
theorem call_isD {X : Cx} {a D dd : Addr} {oe : Obj} {pn : List (Addr × Obj)} (C : ExcC X.K D) (hz : Zc (.ref D) (some dd) oe) (hf : ∃ vs, oe.data = .fields vs) : CallR (X.suite a ((a, oe) :: pn)) (.builtin "isinstance") (rIsD X.K D a dd) := by
  intro pins s σ H xs us Q I r h
  obtain ⟨c, cv, b, fs, rfl, hcv, e, hd, q⟩ := h
  cases r with
  | cons rx rr =>
    cases rr with
    | cons rt rr =>
      cases rr
      cases rx
      have ec := hcv _ rt
      subst ec
      obtain ⟨hget, _⟩ := I.pin (a, oe) (List.mem_append.mpr (.inl List.mem_cons_self))
      obtain ⟨vs, hv⟩ := hf
      have hx : ObjOk X.prog X.w H s.heap dd (.xd fs) := I.hok dd _ hd
      obtain ⟨mA, hns, _⟩ := hx
      obtain ⟨od, ho, _⟩ := lookIn_ns hns
      have J : PySem.W.InstAt s.heap a oe D (some od) := ⟨hget, hz.1, by unfold PySem.W.notCls; rw [hv] <;> rfl, by rw [hz.2]; exact ho⟩
      exact PySem.W.kia_one (PySem.W.kitx_exc (by obtain ⟨cd, hc, _⟩ := PySem.W.any_some C.hd; rw [hc]; rfl) C.hg C.hk C.hs C.ha C.hn C.ht C.hm) I.kIn J e (fun z => nomatch z) fun tk => ⟨.bl b, H, I.kept (t' := tk) fun _ _ z => z, rfl, q⟩
/-- the reading of a handler's expression: o, what it gives -/
def tV (K : PySem.W.Frag) (B : Bx) (a dd : Addr) (f : Str) (y : D) (i : Nat) (o : Option D) : TE := fun σ H P => ∃ (G : Hp) (v : V) (d : D), o = some d ∧ Jn K B G H ∧ σ[i]? = some (some (.ref a)) ∧ H dd = some (.xd [(f, v)]) ∧ Dat K B G v y ∧
  ∀ w G2 H2, Gr K B G H G2 H2 → Dat K B G2 w d → P w H2
section
variable {X : Cx} {B : Bx} {a dd Dc : Addr} {oe : Obj} {pn : List (Addr × Obj)} {f fl w en cn : Str} {y : D} {i j x1 : Nat} {p1 p2 p3 p4 pos : Pos}
theorem pv_fld (T : XfC X.K Dc) (hno : PySem.W.findIn X.K (.ref Dc) fl = some none) (hz : Zc (.ref Dc) (some dd) oe) (hf : ∃ vs, oe.data = .fields vs) (hN : X.N[i]? = some en) (hv : Vis X.env.scope en) (hd1 : (en == ("__debug__" : Str)) = false := by decide) (hd2 : (en == ("__classdict__" : Str)) = false := by decide)
    (hb : attributeBase (.Name en p2) fl X.env (eval (.Name en p2) X.env) = eval (.Name en p2) X.env := by rfl) (hs : starEach [.Constant (.str w) j p1, .Attribute (.Name en p2) fl p3] X.env = (false, eval (.Constant (.str w) j p1) X.env) :: starEach [.Attribute (.Name en p2) fl p3] X.env := by rfl) (hs2 : starEach [.Attribute (.Name en p2) fl p3] X.env = (false, eval (.Attribute (.Name en p2) fl p3) X.env) :: starEach [] X.env := by rfl) :
    PE (X.suite a ((a, oe) :: pn)) (.Tuple [.Constant (.str w) j p1, .Attribute (.Name en p2) fl p3] x1 p4) (tV X.K B a dd f y i (if f = fl then some (.tup [.str w, y]) else none)) :=
  pe_mono (pe_tup (pa_cons pe_str (pa_cons (pe_xf (cls := .ref Dc) (d := some dd) (X := X) T hno hz hf (pe_var (X := X.suite a ((a, oe) :: pn)) hN hv hd1 hd2) hb) pa_nil hs2) hs)) fun σ H P q => by
    obtain ⟨G, v, d, ho, j, hi, hdd, hy, k⟩ := q
    split at ho
    · rename_i e
      subst e
      cases ho
      refine ⟨.ref a, hi, rfl, rfl, dd, [(f, v)], v, rfl, hdd, by simp [List.lookup], ?_⟩
      show [V.str w, v].length ≤ sizeLine ∧ _
      refine ⟨by rw [sizeLine_eq]; show 2 ≤ 16777216; omega, fun p hp => ?_⟩
      have g := Gr.new (o := .tup [.str w, v]) j hp
      exact k _ _ _ g (.tup upd_same (.cons (.str _) (.cons (hy.mono g.ex) .nil)))
    · cases ho
theorem pv_oth (hs : starEach [.Constant (.str w) j p1, .Constant .none x1 p2] X.env = (false, eval (.Constant (.str w) j p1) X.env) :: starEach [.Constant .none x1 p2] X.env := by rfl) (hs2 : starEach [.Constant .none x1 p2] X.env = (false, eval (.Constant .none x1 p2) X.env) :: starEach [] X.env := by rfl) {x2 : Nat} :
    PE (X.suite a ((a, oe) :: pn)) (.Tuple [.Constant (.str w) j p1, .Constant .none x1 p2] x2 p4) (tV X.K B a dd f y i (some (.tup [.str w, .non]))) :=
  pe_mono (pe_tup (pa_cons pe_str (pa_cons pe_non pa_nil hs2) hs)) fun σ H P q => by
    obtain ⟨G, v, d, ho, j, hi, hdd, hy, k⟩ := q
    cases ho
    show [V.str w, V.non].length ≤ sizeLine ∧ _
    refine ⟨by rw [sizeLine_eq]; show 2 ≤ 16777216; omega, fun p hp => ?_⟩
    have g := Gr.new (o := .tup [.str w, .non]) j hp
    exact k _ _ _ g (.tup upd_same (.cons (.str _) (.cons .non .nil)))
/-- isinstance(e, C) as a test -/
def tIsD (a dd : Addr) (i : Nat) (b : Bool) : TT := fun σ H P => σ[i]? = some (some (.ref a)) ∧ (∃ fs, H dd = some (.xd fs)) ∧ P b H
theorem pv_is {Cn : Addr} {b : Bool} (C : ExcC X.K Dc) (hz : Zc (.ref Dc) (some dd) oe) (hf : ∃ vs, oe.data = .fields vs) (hk : PySem.W.kitOne X.K (.ref Dc) (.ref Cn) = some b) (hgi : Gl X "isinstance") (hmi : X.mg "isinstance" = none) (hgc : Gl X cn) (hmc : X.mg cn = some (.ref Cn)) (hN : X.N[i]? = some en) (hv : Vis X.env.scope en)
    (hd1 : (en == ("__debug__" : Str)) = false := by decide) (hd2 : (en == ("__classdict__" : Str)) = false := by decide) (hd3 : (cn == ("__debug__" : Str)) = false := by decide)
    (hs : starEach [.Name en p2, .Name cn p3] X.env = (false, eval (.Name en p2) X.env) :: starEach [.Name cn p3] X.env := by rfl) (hs2 : starEach [.Name cn p3] X.env = (false, eval (.Name cn p3) X.env) :: starEach [] X.env := by rfl)
    (hpl : (backTo pos (starEach [.Name cn p3] X.env)).any (·.1) = false := by rfl)
    (he : ∀ whole, isTrue (.Call (.Name "isinstance" p1) [.Name en p2, .Name cn p3] [] pos) X.env whole = (do let v ← whole; standAt (Expr.Call (.Name "isinstance" p1) [.Name en p2, .Name cn p3] [] pos).pos; holding [v] (truthy v)) := by intro _; rfl) :
    PT (X.suite a ((a, oe) :: pn)) (.Call (.Name "isinstance" p1) [.Name en p2, .Name cn p3] [] pos) (tIsD a dd i b) :=
  pt_mono (pt_val (pe_callB (X := X.suite a ((a, oe) :: pn)) (call_isD C hz hf) hgi hmi (by decide +kernel) (pa_cons (pe_var (X := X.suite a ((a, oe) :: pn)) hN hv hd1 hd2) (pa_cons (pe_glob (X := X.suite a ((a, oe) :: pn)) (v := .ref Cn) hgc hmc rfl hd3) pa_nil hs2) hs) (by decide) (by decide) hs hpl) he) fun σ H P q => by
    obtain ⟨hi, ⟨fs, hd⟩, q⟩ := q
    exact ⟨.ref a, hi, .ref Cn, .ref Cn, b, fs, rfl, fun u r => r, hk, hd, b, rfl, q⟩
theorem pv_ife {c ea eb : Expr} {oa ob : Option D} {b : Bool} (hc : PT (X.suite a ((a, oe) :: pn)) c (tIsD a dd i b)) (ha : PE (X.suite a ((a, oe) :: pn)) ea (tV X.K B a dd f y i oa)) (hb : PE (X.suite a ((a, oe) :: pn)) eb (tV X.K B a dd f y i ob)) :
    PE (X.suite a ((a, oe) :: pn)) (.IfExp c ea eb pos) (tV X.K B a dd f y i (if b = true then oa else ob)) := pe_mono (pe_ifExp hc ha hb) fun σ H P q => by
  obtain ⟨G, v, d, ho, j, hi, hdd, hy, k⟩ := q
  refine ⟨hi, ⟨_, hdd⟩, ?_⟩
  cases b with
  | true => exact ⟨G, v, d, ho, j, hi, hdd, hy, k⟩
  | false => exact ⟨G, v, d, ho, j, hi, hdd, hy, k⟩
/-- .. of a suite that returns -/
def tVS (K : PySem.W.Frag) (B : Bx) (a dd : Addr) (f : Str) (y : D) (i : Nat) (o : Option D) : TS := fun E σ H => tV K B a dd f y i o σ H E.rt
theorem pvs_ret {ea : Expr} {oa : Option D} (ha : PE (X.suite a ((a, oe) :: pn)) ea (tV X.K B a dd f y i oa)) : PSs (X.suite a ((a, oe) :: pn)) [.Return (some ea) pos] (tVS X.K B a dd f y i oa) := pss_one (ps_ret ha)
end
end DL
namespace DL
open PySem PySem.Spec PyProof.Rows L2 LamX
end DL
namespace DL
open PySem PySem.Spec PyProof.Rows L2 Evl LamX
/-- nothing is new, or one code object, written into the table at P -/
def Mk1 (H : Hp) (P : Addr) (q : Str) (c' : Addr) (H1 : Hp) : Prop := H1 = H ∨ (H c' = none ∧ ∃ ps ps' : Array Value, H P = some (.tbl ps) ∧ H1 = upd (upd H P (.tbl ps')) c' (CodeO c' q) ∧ TriplesOk ps'.toList ∧
  ∀ (pos : Pos) (cv : Value), codeAmong pos ps'.toList = some cv → codeAmong pos ps.toList = some cv ∨ cv = .ref c')
section
variable {K : PySem.W.Frag} {B : Bx} {G H H1 : Hp} {P c' : Addr} {q : Str}
/-- behind the making of a lambda: all stands, its code object is known -/
theorem Gr.tab (j : Jn K B G H) (hm : (P, q) ∈ B.tb) (hu : ∀ t ∈ B.tb, t.1 = P → t.2 = q) (m : Mk1 H P q c' H1) : ∃ G1, Gr K B G H G1 H1 := by
  rcases m with rfl | ⟨hc, ps, ps', hP, rfl, ht, ha⟩
  · exact ⟨G, Gr.refl j⟩
  · have gc : G c' = none := fresh_back j.ex hc
    obtain ⟨⟨ps0, z1, z2, z3⟩, gP⟩ := j.xt.tb _ hm
    have z1 : H P = some (.tbl ps0) := z1
    rw [hP] at z1
    cases z1
    have nPc : P ≠ c' := ne_of_none hP hc
    have bagb : ∃ xs, H B.b = some (.lst xs) := let ⟨_, _, _, _, h, _⟩ := j.bag; ⟨_, h⟩
    have nbP : B.b ≠ P := fun e => by
      obtain ⟨xs, h⟩ := bagb
      rw [e, hP] at h
      cases h
    have nbc : B.b ≠ c' := fun e => by
      obtain ⟨xs, h⟩ := bagb
      rw [e, hc] at h
      cases h
    have at1 : ∀ a, a ≠ P → a ≠ c' → upd (upd H P (.tbl ps')) c' (CodeO c' q) a = H a := fun a h1 h2 => by rw [upd_ne h2, upd_ne h1]
    have ex1 := Ex.new (o := CodeO c' q) gc
    have kp : ∀ a o, B.st a → H a = some o → upd (upd H P (.tbl ps')) c' (CodeO c' q) a = some o := fun a o s h => by
      rw [at1 a (fun e => s.2 _ hm e) (ne_of_none h hc)]
      exact h
    have old : ∀ a, Mu H a → upd G c' (CodeO c' q) a = G a := fun a m => upd_ne fun e => by subst e; exact m.ne hc
    refine ⟨upd G c' (CodeO c' q), ex1, kp, ⟨fun a o h => ?_, by rw [upd_ne nbc]; exact j.no, ?_, ?_⟩, old⟩
    · by_cases e : a = c'
      · subst e
        rw [upd_same] at h ⊢
        exact h
      · rw [upd_ne e] at h
        rw [at1 a (fun e2 => by rw [e2, gP] at h; cases h) e]
        exact j.ex a o h
    · obtain ⟨a, b, c, ns, h1, h2, h3⟩ := j.bag
      exact ⟨a, b, c, ns, by rw [at1 _ nbP nbc]; exact h1, ex_l ex1 h2, h3⟩
    · refine ⟨fun t h => ?_, fun u h => (j.xt.ex u h).trans ex1, fun u h a o s e => kp a o s (j.xt.keep u h a o s e), fun u h a m => ?_⟩
      · obtain ⟨⟨pt, y1, y2, y3⟩, y4⟩ := j.xt.tb t h
        have ntc : t.1 ≠ c' := ne_of_none y1 hc
        refine ⟨?_, by rw [upd_ne ntc]; exact y4⟩
        by_cases e : t.1 = P
        · have e2 := hu t h e
          rw [e, e2]
          refine ⟨ps', by rw [upd_ne nPc, upd_same], ht, fun pos cv z => ?_⟩
          rcases ha pos cv z with z | z
          · obtain ⟨c0, x1, x2⟩ := z3 pos cv z
            exact ⟨c0, x1, ex1 _ _ x2⟩
          · exact ⟨c', z, upd_same⟩
        · refine ⟨pt, by rw [at1 _ e ntc]; exact y1, y2, fun pos cv z => ?_⟩
          obtain ⟨c0, x1, x2⟩ := y3 pos cv z
          exact ⟨c0, x1, ex1 _ _ x2⟩
      · rw [old a (j.mu u h a m)]
        exact j.xt.old u h a m
end
end DL
namespace DL
open PySem PySem.Spec PyProof.Rows L2 Evl LamX
/-- B with its anchor at u -/
abbrev Bx.at (B : Bx) (u : Option (Hp × Hp)) : Bx := { B with up := u }
section
variable {K : PySem.W.Frag} {B B' : Bx} {G : Hp}
mutual
theorem Dat.cong (h1 : B'.b = B.b) (h2 : B'.ct = B.ct) : ∀ {v : V} {d : D}, Dat K B G v d → Dat K B' G v d
  | _, _, .non => .non
  | _, _, .bl b => .bl b
  | _, _, .int i => .int i
  | _, _, .str x => .str x
  | _, _, .lst h t => .lst h (Dats.cong h1 h2 t)
  | _, _, .tup h t => .tup h (Dats.cong h1 h2 t)
  | _, _, .ktup h t => .ktup h (Dats.cong h1 h2 t)
  | _, _, .dK h t => .dK h (DatK.cong h1 h2 t)
  | _, _, .dT h t => .dT h (DatT.cong h1 h2 t)
  | _, _, .bag => h1 ▸ .bag
  | _, _, .obj h h3 t => .obj (by rw [h2]; exact h) h3 (Dats.cong h1 h2 t)
theorem Dats.cong (h1 : B'.b = B.b) (h2 : B'.ct = B.ct) : ∀ {v : List V} {d : List D}, Dats K B G v d → Dats K B' G v d
  | _, _, .nil => .nil
  | _, _, .cons h t => .cons (Dat.cong h1 h2 h) (Dats.cong h1 h2 t)
theorem DatK.cong (h1 : B'.b = B.b) (h2 : B'.ct = B.ct) : ∀ {v : List (Key × V)} {d : List (D × D)}, DatK K B G v d → DatK K B' G v d
  | _, _, .nil => .nil
  | _, _, .consI h t => .consI (Dat.cong h1 h2 h) (DatK.cong h1 h2 t)
  | _, _, .consS h t => .consS (Dat.cong h1 h2 h) (DatK.cong h1 h2 t)
theorem DatT.cong (h1 : B'.b = B.b) (h2 : B'.ct = B.ct) : ∀ {v : List (List Key × V)} {d : List (D × D)}, DatT K B G v d → DatT K B' G v d
  | _, _, .nil => .nil
  | _, _, .cons h t => .cons (Dat.cong h1 h2 h) (DatT.cong h1 h2 t)
end
end
theorem Dat.toAt {K : PySem.W.Frag} {B : Bx} {G : Hp} {v : V} {d : D} (u : Option (Hp × Hp)) (h : Dat K B G v d) : Dat K (B.at u) G v d := Dat.cong (B := B) (B' := B.at u) rfl rfl h
theorem Dat.ofAt {K : PySem.W.Frag} {B : Bx} {G : Hp} {v : V} {d : D} {u : Option (Hp × Hp)} (h : Dat K (B.at u) G v d) : Dat K B G v d := Dat.cong (B := B.at u) (B' := B) rfl rfl h
section
variable {K : PySem.W.Frag} {B : Bx} {H0 G H G1 H1 G2 H2 : Hp} {σ : L2.St} {δ : DS}
/-- the anchor is set here -/
theorem Jn.anchor (j : Jn K B G H) : Jn K (B.at (some (G, H))) G H where
  ex := j.ex
  no := j.no
  bag := j.bag
  xt := { tb := j.xt.tb, ex := fun u h => by cases h; exact Ex.refl G, keep := fun u h a o _ e => by cases h; exact e, old := fun u h a _ => by cases h; rfl }
/-- what holds with the anchor here, holds with the older one; all grew from here -/
theorem Gr.weigh (j0 : Jn K B G1 H1) (j : Jn K (B.at (some (G1, H1))) G2 H2) : Gr K B G1 H1 G2 H2 where
  ex := j.xt.ex _ rfl
  kp := fun a o s h => j.xt.keep _ rfl a o s h
  old := fun a m => j.xt.old _ rfl a m
  j := { ex := j.ex, no := j.no, bag := j.bag, xt := {
    tb := j.xt.tb
    ex := fun u h => (j0.xt.ex u h).trans (j.xt.ex _ rfl)
    keep := fun u h a o s e => j.xt.keep _ rfl a o s (j0.xt.keep u h a o s e)
    old := fun u h a m => by rw [j.xt.old _ rfl a (j0.mu u h a m)]; exact j0.xt.old u h a m } }
/-- only plain data are known of the slots -/
def shD : Option SD → Option SD
  | some (.sh d) => some (.sh d)
  | _ => none
def shOnly (δ : DS) : DS := δ.map shD
theorem StOk.plain (u : Option (Hp × Hp)) (x : StOk K B H0 G H σ δ) : StOk K (B.at u) H G H σ (shOnly δ) := by
  obtain ⟨F, y⟩ := x.ex
  refine ⟨fun _ => [], ⟨by unfold shOnly; rw [List.length_map]; exact y.len, fun i ov od h1 h2 => ?_, fun i j _ _ _ p hp => nomatch hp⟩⟩
  unfold shOnly at h2
  rw [List.getElem?_map] at h2
  cases hd : δ[i]? with
  | none => rw [hd] at h2; cases h2
  | some od' =>
    rw [hd, Option.map_some] at h2
    have h2 := Option.some.inj h2
    subst h2
    have s := y.at_ i ov od' h1 hd
    generalize F i = f at s
    cases s with
    | no => exact .no
    | sh h => exact .sh (h.toAt u)
    | ow h n q => exact .no
    | nw n => exact .no
end
end DL
namespace DL
open PySem PySem.Spec PyProof.Rows L2 Evl LamX
theorem law_runT {P : Program} {w : World} {K : PySem.W.Frag} {mg mb : Str → Option Value} {k : Nat} {fa a : Addr} {cs : List (Addr × Addr)} {fd : FuncData} {x : Str} {sp : Sp} {s1 : Shared} {vs : List Value} {ns : List Int}
    (KX : K.In s1.heap) (hns : s1.heap.Ns mainGlobals mg) (hb : s1.heap.Ns builtinsNs mb) (hbb : ∀ x : Str, x ≠ "__name__" → mb x = bootBuiltins x) (hlim : s1.heap.NoLimit) (hgens : s1.gens = #[])
    (hT : ∀ p ∈ cs, s1.heap.get? p.2 = some { cls := .none, data := .fields #[] }) (nT : ∀ p ∈ cs, K.lookup p.2 = none) (hC : ∀ p ∈ cs, PySem.W.CodeHd s1.heap p.1 p.2)
    (hbm : ∃ (bm : Addr) (ob : Obj), mg "__builtins__" = some (.ref bm) ∧ bm ≠ builtinsNs ∧ s1.heap.get? bm = some ob ∧ ob.cls = .type "module" ∧ ob.dict = some builtinsNs ∧ ob.data = .plain)
    (ha : s1.heap.get? a = some { cls := .type "list", data := .seq vs.toArray }) (hi : IntsAre vs ns) (hl : ns.length ≤ sizeLine) (room : Room k callerA)
    (F : ∀ base : Heap, K.In base → base.Ns mainGlobals mg → (∀ p ∈ cs, TabB base mg p.1 p.2) → FnG P w K mg base CX0 k fa fd [x] sp) (hbind : ∀ (s : Shared) (u : Value), BindsTo s fd ⟨[u], []⟩ [(x, u)])
    (hsp : ∀ H : Hp, (∀ p ∈ cs, H p.2 = some (.tbl #[])) → SqL K H a (ns.map V.int) → sp [.ref a] H (fun v _ => v = .bl true) fun _ _ _ => False) :
    codeAny (model P w) callerA (.call (.ref fa) ⟨[.ref a], []⟩) (fun r s' => r = .ok (.ret (.bool true)) ∧ OldK s1.heap s'.heap ∧ s'.os = s1.os ∧ AllBare s'.gens) s1 := by
  let o : Obj := { cls := .type "list", data := .seq vs.toArray }
  have rel := vals_of_ints hi
  have isT : ∀ b, b ∈ cs.map (·.2) → s1.heap.get? b = some { cls := .none, data := .fields #[] } := fun b hb => by
    obtain ⟨p, hp, rfl⟩ := List.mem_map.mp hb
    exact hT p hp
  have memT : ∀ p ∈ cs, p.2 ∈ cs.map (·.2) := fun p hp => List.mem_map_of_mem hp
  have aT : a ∉ cs.map (·.2) := fun z => by
    have q := isT a z
    rw [ha] at q
    cases q
  have noK : ∀ b, b ∈ cs.map (·.2) → K.lookup b = none := fun b hb => by
    obtain ⟨p, hp, rfl⟩ := List.mem_map.mp hb
    exact nT p hp
  -- the script is locked, unless it is one of the module's own things; the tables stand empty
  obtain ⟨H, only, tabs, seen, held⟩ : ∃ H : Hp, (∀ b, H b = none ∨ (b = a ∧ K.lookup a = none ∧ H b = some (.frz o (.lst (ns.map V.int)))) ∨ (b ∈ cs.map (·.2) ∧ H b = some (.tbl #[]))) ∧ (∀ p ∈ cs, H p.2 = some (.tbl #[])) ∧ SqL K H a (ns.map V.int) ∧ HOk P w H s1.heap := by
    cases hk : K.lookup a with
    | some u =>
      have z := KX a u hk
      rw [ha] at z
      cases z
      refine ⟨fun b => if b ∈ cs.map (·.2) then some (.tbl #[]) else none, fun b => ?_, fun p hp => if_pos (memT p hp), .inr ⟨_, vs.toArray, _, hk, rfl, rfl, rfl, by rw [List.size_toArray, hi.length]; exact hl, rel⟩, fun b u z => ?_⟩
      · by_cases hb : b ∈ cs.map (·.2)
        · exact .inr (.inr ⟨hb, if_pos hb⟩)
        · exact .inl (if_neg hb)
      · by_cases hb : b ∈ cs.map (·.2)
        · have z : (if b ∈ cs.map (·.2) then some (HO.tbl #[]) else none) = some u := z
          rw [if_pos hb] at z
          cases z
          exact isT b hb
        · have z : (if b ∈ cs.map (·.2) then some (HO.tbl #[]) else none) = some u := z
          rw [if_neg hb] at z
          cases z
    | none =>
      refine ⟨fun b => if b ∈ cs.map (·.2) then some (.tbl #[]) else upd (fun _ => none) a (.frz o (.lst (ns.map V.int))) b, fun b => ?_, fun p hp => if_pos (memT p hp), .inl (.inr ⟨o, (if_neg aT).trans upd_same⟩), fun b u z => ?_⟩
      · by_cases hb : b ∈ cs.map (·.2)
        · exact .inr (.inr ⟨hb, if_pos hb⟩)
        · by_cases hba : b = a
          · subst hba
            exact .inr (.inl ⟨rfl, rfl, (if_neg hb).trans upd_same⟩)
          · exact .inl ((if_neg hb).trans (upd_ne hba))
      · have z : (if b ∈ cs.map (·.2) then some (HO.tbl #[]) else upd (fun _ => none) a (.frz o (.lst (ns.map V.int))) b) = some u := z
        by_cases hb : b ∈ cs.map (·.2)
        · rw [if_pos hb] at z
          cases z
          exact isT b hb
        · rw [if_neg hb] at z
          by_cases hba : b = a
          · subst hba
            rw [upd_same] at z
            cases z
            exact ⟨ha, by rw [List.length_map]; exact hl, vs, _, rel, ha⟩
          · rw [upd_ne hba] at z; cases z
  have free : ∀ {b : Addr} {u : Obj}, s1.heap.get? b = some u → ((∀ xs n, u.data ≠ .seq xs n) ∧ u.data ≠ .fields #[]) ∨ K.lookup b = some u → H b = none := fun {b u} e z => by
    rcases only b with q | ⟨rfl, hk, _⟩ | ⟨hb, _⟩
    · exact q
    · rcases z with z | z
      · rw [ha] at e; cases e; exact (z.1 _ _ rfl).elim
      · rw [hk] at z; cases z
    · rcases z with z | z
      · rw [isT b hb] at e; cases e; exact (z.2 rfl).elim
      · rw [noK b hb] at z; cases z
  have ns_ : ∀ {b : Addr} {m : Str → Option Value}, s1.heap.Ns b m → (hidT s1.heap H).Ns b m := fun {b m} ⟨u, es, ep, e, d, r⟩ => ⟨u, es, ep, hidT_get e (free e (.inl ⟨(fun _ _ z => by rw [d] at z; cases z), (fun z => by rw [d] at z; cases z)⟩)), d, r⟩
  have kin : K.In (hidT s1.heap H) := fun b u e => hidT_get (KX b u e) (free (KX b u e) (.inr e))
  have md : Mod K mg (hidT s1.heap H) := ⟨kin, ns_ hns, ⟨mb, ns_ hb, hbb⟩, hlim.elim fun m z => ⟨m, ns_ z.1, z.2⟩⟩
  have tbs : ∀ p ∈ cs, TabB (hidT s1.heap H) mg p.1 p.2 := fun p hp => by
    have tp := hT p hp
    refine ⟨?_, ?_, fun z => ?_⟩
    · obtain ⟨u, us, file, tf, flags, tg, inF, text, tt, e1, r1, r2, r3, r⟩ := hC p hp
      exact ⟨u, us, file, tf, flags, tg, inF, text, tt, hidT_get e1 (free e1 (.inl ⟨(fun _ _ z => by rw [r2] at z; cases z), (fun z => by rw [r2] at z; cases z; simp at r3)⟩)), r1, r2, r3, r⟩
    · obtain ⟨bm, ob, b1, b2, b3, b4, b5, b6⟩ := hbm
      refine ⟨bm, ob, b1, b2, fun q => ?_, fun q => ?_, hidT_get b3 (free b3 (.inl ⟨(fun _ _ z => by rw [b6] at z; cases z), (fun z => by rw [b6] at z; cases z)⟩)), b4, b5, b6⟩
      · obtain ⟨og, es, ep, e, hd, _⟩ := hns
        rw [q, e] at b3
        cases b3
        rw [hd] at b6
        cases b6
      · rw [q, tp] at b3
        cases b3
        cases b6
    · obtain ⟨og, es, ep, e, hd, _⟩ := hns
      rw [z, tp] at e
      cases e
      cases hd
  have env : Env0 P w K mg (hidT s1.heap H) callerA [] s1 H := ⟨rfl, md, fun _ _ e => of_hidT e, Nat.le_of_eq (hidT_size _ _), trivial, (fun b z => nomatch (show b ∈ ([] : List Addr) from z)), held, .of_eq hgens⟩
  refine codeAny_mono ((F _ kin (ns_ hns) tbs).go callerA [] s1 H ⟨[.ref a], []⟩ [.ref a] [.ref a] _ _ rfl room env (hbind s1 (.ref a)) (.cons rfl .nil) (hsp H tabs seen)) fun r s' h => ?_
  match r, h with
  | .error e, h => exact h.elim
  | .ok (.ret u), h =>
    obtain ⟨v, H', os, bare, un, held', r', q⟩ := h
    have q' : v = .bl true := q
    subst q'
    obtain rfl : u = Value.bool true := r'
    have stays : ∀ b ob, b ∉ cs.map (·.2) → s1.heap.get? b = some ob → s'.heap.get? b = some ob := fun b ob nb e => by
      rcases only b with q | ⟨rfl, _, q⟩ | ⟨hb, _⟩
      · exact un.keep b ob e q (fun z => nomatch (show b ∈ ([] : List Addr) from z)) (fun z => nomatch z)
      · have z2 := un.frzs b o _ q
        rw [ha] at e
        cases e
        exact (held' b _ z2).1
      · exact absurd hb nb
    have grows : ∀ b, b ∈ cs.map (·.2) → ∃ (p : Addr × Addr) (more : Array Value), p ∈ cs ∧ p.2 = b ∧ s'.heap.get? b = some { cls := .none, data := .fields more } := fun b hb => by
      obtain ⟨p, hp, rfl⟩ := List.mem_map.mp hb
      obtain ⟨more, z⟩ := un.tbls p.2 #[] (tabs p hp)
      exact ⟨p, _, hp, rfl, held' p.2 _ z⟩
    refine ⟨rfl, ⟨fun b ob e => ?_, fun b ob e => ?_⟩, os, bare⟩
    · by_cases hb : b ∈ cs.map (·.2)
      · obtain ⟨p, more, hp, rfl, z⟩ := grows b hb
        rw [hT p hp] at e
        cases e
        exact .inr (.inl ⟨((hC p hp).tab (hT p hp)).isCodeTable, rfl, #[], more, rfl, by rw [Array.empty_append]; exact z⟩)
      · exact .inl (stays b ob hb e)
    · by_cases hb : b ∈ cs.map (·.2)
      · obtain ⟨_, _, _, _, z⟩ := grows b hb
        exact ⟨_, z⟩
      · exact ⟨ob, stays b ob hb e⟩
/-- what is to be told of the law at the head's heap -/
def LawT (l : PySem.W.OpenLaw) (w : World) (K : PySem.W.Frag) (k n : Nat) (x : Str) (mg : Str → Option Value) (fa : Addr) (h : Heap) : Prop :=
  ∃ (fd : FuncData) (cs : List (Addr × Addr)) (sp : Sp), (∀ p ∈ cs, h.get? p.2 = some { cls := .none, data := .fields #[] }) ∧ (∀ p ∈ cs, K.lookup p.2 = none) ∧ (∀ p ∈ cs, PySem.W.CodeHd h p.1 p.2) ∧ (∀ (s : Shared) (u : Value), BindsTo s fd ⟨[u], []⟩ [(x, u)]) ∧
    (∀ (H : Hp) (a : Addr) (ns : List Int), ns.length ≤ n → (∀ z ∈ ns, Builtin.Int.intBits z ≤ 1048576) → (∀ p ∈ cs, H p.2 = some (.tbl #[])) → SqL K H a (ns.map V.int) → sp [.ref a] H (fun v _ => v = .bl true) fun _ _ _ => False) ∧
    ∀ base : Heap, K.In base → base.Ns mainGlobals mg → (∀ p ∈ cs, TabB base mg p.1 p.2) → FnG l.prog w K mg base CX0 k fa fd [x] sp
theorem walk_gT {l : PySem.W.OpenLaw} {n k : Nat} {q : Program} {loose : List Str} {XP : (Str → Option Value) → Heap → Prop} {YP : World → Heap → Prop} {d : DefRec} {K : Params → PySem.W.Frag} {x : Str}
    (hn : l.most = some n) (hn2 : n ≤ sizeLine) (hdf : d.params.defaults = []) (hr : Room k callerA) (hY : ∀ (w : World) (h : Heap), YP w h → (K w.params).In h)
    (F : ∀ (w : World) (mg : Str → Option Value) (fa : Addr) (h : Heap), YP w h → (K w.params).In h → h.Ns mainGlobals mg → mg d.name = some (.ref fa) → LawT l w (K w.params) k n x mg fa h) :
    PySem.W.WalkO q loose XP YP l.row.toRowW d [] (fun f vs => PySem.call f vs) :=
  Att.attach_callB hn hdf fun w _ s1 mg mb fa _ _ _ _ a vs ns G Y _ _ _ hmg hobj hints hlen hbits hg => by
    have KX := hY w _ Y
    obtain ⟨fd, cs, sp, hT, nT, hC, hb, hsp, hF⟩ := F w mg fa _ Y KX G.T.g hmg
    exact law_runT KX G.T.g G.T.b G.T.builtins G.T.nolimit hg hT nT hC G.T.bmain hobj hints (Nat.le_trans hlen hn2) hr hF hb fun H hH hS => hsp H a ns hlen hbits hH hS
end DL
namespace DL
open PySem PySem.Spec PyProof.Rows L2 Evl
theorem code_ref {K : PySem.W.Frag} {cd : Value} {q : Str} (h : PySem.W.codeIn K cd q = true) : ∃ c, cd = .ref c := by
  unfold PySem.W.codeIn at h
  cases cd with
  | ref c => exact ⟨c, rfl⟩
  | _ => cases h
section
variable {P : Program} {w : World} {K : PySem.W.Frag} {mg : Str → Option Value} {base : Heap} {CX : CXT} {f : Addr} {fd : FuncData} {ps : List Str} {sp : Sp} {k : Nat}
theorem fng_ofC {x qual : Str} {st : Stmt} {N : List Str} (F : Fun K x qual st f fd) (S : FnScope N ps (defScope st)) (len : ∀ vs H Q E, sp vs H Q E → vs.length = ps.length)
    (hbody : ∀ (c : Addr) (A : Around) (fr : List Env) (s : Shared) (H : Hp) (vs : List V) (Q : VK) (E : XK), fd.code = .ref c → A.guards = some [] → Room k (A.deeper (envOfC qual (defScope st) s.heap.objs.size f (.ref c))) → sp vs H Q E →
      ∃ t, PSs (cxOf CX P w K mg base N qual (defScope st) f (.ref c) A fr s H E) (defBody st) t ∧ t { nx := fun _ H' => Q .non H', rt := Q } (L2.start N vs) H) : FnG P w K mg base CX (k + 1) f fd ps sp := by
  obtain ⟨oc, od, kV, doc, pm, an, cdv, ct, osl, rfl, lk, hcd⟩ := F.ex
  obtain ⟨c, rfl⟩ := code_ref hcd
  refine ⟨len, fun A fr s H args us vs Q E hgd room env bnd rel hsp => ?_⟩
  have inK : K.In s.heap := env.mod.kin.keeps fun b o z => (env.bs b o z).1
  have noLim : s.heap.NoLimit := env.mod.nolimit.keeps fun b o z => (env.bs b o z).1
  refine codeAny_call_function room.depth (inK _ _ lk) rfl S.co S.gen rfl (PySem.W.codeRec_of inK hcd) (bnd _ _ _ _ ?_)
  refine wpAny_newFunctionEnv_cells S.kind (fun ⟨n, v⟩ hy => (S.par n (List.of_mem_zip hy).1).elim .inl fun z => .inr ⟨z, PySem.W.cellsFrom_some _ _ _ (.inl z)⟩) fun _ hEnv s1 born => ?_
  subst hEnv
  refine ⟨noLim.keeps born.toInCall.keep, codeAny_func ?_⟩
  obtain ⟨t, ht, hw⟩ := hbody c A fr s H vs Q E rfl hgd (room.deeper _) hsp
  have I := inv_start (CX := CX) (E := E) S room.hd env (len _ _ _ _ hsp) rel born
  refine wpAny_mono (ht.run [] s1 _ H _ I hw) (fun fl s' hs => ?_) fun _ _ z => z
  cases fl with
  | next =>
    obtain ⟨σ', H', J, q⟩ := hs
    exact ⟨.non, H', J.os, J.bare, J.base, J.hok, rfl, q⟩
  | ret u =>
    obtain ⟨v, σ', H', J, rv, q⟩ := hs
    exact ⟨v, H', J.os, J.bare, J.base, J.hok, rv, q⟩
  | brk => exact hs.elim fun _ z => z.elim fun _ y => y.2.elim
  | cont => exact hs.elim fun _ z => z.elim fun _ y => y.2.elim
end
end DL
namespace DL
open PySem PySem.Spec PyProof.Rows L2 Evl
end DL
namespace DL
open PySem PySem.Spec PyProof.Rows L2 NdefX
structure ExcF (P : Program) (w : World) (K : PySem.W.Frag) (mg : Str → Option Value) (base : Heap) (C : Addr) (x fld par : Str) where
  g : mg x = some (.ref C)
  oex : OexC K C
  f : Addr
  fd : FuncData
  init : PySem.W.findIn K (.ref C) "__init__" = some (some (.ref f))
  ty : PySem.W.typeIn K (.ref f) = some (.type "function")
  ok : FnOk P w K mg base CX0 1 f fd ["self", par] (spEI C fld)
  bd : Binds K fd ["self", par] []
/-- .. out of its __init__'s statement st -/
def excf_of {P : Program} {w : World} {K : PySem.W.Frag} {mg : Str → Option Value} {base : Heap} {C f cc cda : Addr} {st : Stmt} {x name qual fld par msg : Str} {dV kV doc pm ct oc : Value} {an od : Option Addr} {osl : Array (Option Value)} {ar : Arg} {p0 p1 p2 p3 p4 p5 p6 p7 p8 p9 : Pos} {j : Nat} {pl : Sem Bool}
    (g : mg x = some (.ref C)) (init : PySem.W.findIn K (.ref C) "__init__" = some (some (.ref f))) (ty : PySem.W.typeIn K (.ref f) = some (.type "function")) (XI : XIn P K mg C f cc cda fld)
    (hb : defBody st = [.Expr (.Call (.Attribute (.Call (.Name "super" p0) [] [] p1) "__init__" p2) [.Constant (.str msg) j p3] [] p4) p5, .Assign [.Attribute (.Name "self" p6) fld p7] (.Name par p8) p9])
    (lk : K.lookup f = some ⟨oc, od, .func (PySem.W.ksFn name qual (defArgs st) (defBody st) (defScope st) dV kV doc pm an (.ref cda) ct cc), osl⟩)
    (hcd : PySem.W.codeIn K (.ref cda) qual = true) (S : NScope ["self", par, "__class__"] ["self", par] ["__class__"] (defScope st))
    (hp : ((defArgs st).posonlyargs ++ (defArgs st).args).head? = some ar) (har : ar.arg = "self") (hks : (defScope st).names.lookup ("super" : Str) = some .globalImplicit) (hpd : (par == ("__debug__" : Str)) = false) (hpc : (par == ("__classdict__" : Str)) = false) (hps : par ≠ "self")
    (he : ∀ L, eval (.Call (.Attribute (.Call (.Name "super" p0) [] [] p1) "__init__" p2) [.Constant (.str msg) j p3] [] p4) (PySem.W.ksEnv qual (defScope st) L f (.ref cda) cc) = (do
      let ov ← attributeBase (.Call (.Name "super" p0) [] [] p1) "__init__" (PySem.W.ksEnv qual (defScope st) L f (.ref cda) cc) (eval (.Call (.Name "super" p0) [] [] p1) (PySem.W.ksEnv qual (defScope st) L f (.ref cda) cc))
      standAt p2.atName
      let (fv, first) ← holding [ov] (getMethod ov "__init__" pl)
      callWith p4 fv first (backTo p4 (starEach [.Constant (.str msg) j p3] (PySem.W.ksEnv qual (defScope st) L f (.ref cda) cc))) []))
    (hs0 : ∀ L, swapsWith (.Call (.Attribute (.Call (.Name "super" p0) [] [] p1) "__init__" p2) [.Constant (.str msg) j p3] [] p4) none p5.line (PySem.W.ksEnv qual (defScope st) L f (.ref cda) cc) = pure false)
    (hs1 : ∀ L, swapsWith (.Name par p8) (some (.Attribute (.Name "self" p6) fld p7)) p9.line (PySem.W.ksEnv qual (defScope st) L f (.ref cda) cc) = pure false)
    (bd : Binds K (PySem.W.ksFn name qual (defArgs st) (defBody st) (defScope st) dV kV doc pm an (.ref cda) ct cc) ["self", par] []) : ExcF P w K mg base C x fld par where
  g := g
  oex := XI.oex
  f := f
  fd := PySem.W.ksFn name qual (defArgs st) (defBody st) (defScope st) dV kV doc pm an (.ref cda) ct cc
  init := init
  ty := ty
  ok := by
    rw [hb] at lk ⊢
    exact exinit_ok (k := 0) XI lk hcd S hp har hks hpd hpc hps he hs0 hs1
  bd := bd
end DL
namespace DL
open PySem PySem.Spec PyProof.Rows L2 Evl LamX NdefX
/-- the suite of the first handler of a def whose body is one try -/
def handBody (st : Stmt) : List Stmt := match defBody st with
  | [.Try _ [.ExceptHandler _ _ b _] _ _ _] => b
  | _ => []
section
variable {Wx : XW} {c : Nat} {f w0 : Str} {r : DE} {E : DEnds} {δ : DS} {okc : Nat → Bool} {hd : Nat → Str → D → Option D} {rx : XW → DE} {Q : D → Prop}
theorem z_raise : dRaise Wx c f r E δ = r δ fun d => Wx c f d := propext Iff.rfl
theorem z_shOnly : shOnly δ = δ.map shD := rfl
theorem z_shDs {d : D} : shD (some (.sh d)) = some (.sh d) := rfl
theorem z_shDn : shD none = none := rfl
end
/-- a def's code object stands at c -/
def codeIs (K : PySem.W.Frag) (f c : Addr) : Bool := match K.lookup f with
  | some ⟨_, _, .func fd, _⟩ => (match fd.code with
    | .ref c' => Nat.beq c' c
    | _ => false)
  | _ => false
theorem codeIs_eq {K : PySem.W.Frag} {f c : Addr} {oc : Value} {od : Option Addr} {osl : Array (Option Value)} {fd : FuncData} (h : codeIs K f c = true) (l : K.lookup f = some ⟨oc, od, .func fd, osl⟩) : fd.code = .ref c := by
  unfold codeIs at h
  rw [l] at h
  have h : (match fd.code with | .ref c' => Nat.beq c' c | _ => false) = true := h
  cases e : fd.code with
  | ref c' =>
    rw [e] at h
    rw [Nat.eq_of_beq_eq_true h]
  | _ => rw [e] at h; cases h
theorem DefAt.code {K : PySem.W.Frag} {mg : Str → Option Value} {x : Str} {st : Stmt} {ps : List Str} {c : Addr} (T : DefAt K mg x st ps) (h : codeIs K T.f c = true) : T.fd.code = .ref c := by
  obtain ⟨oc, od, kV, doc, pm, an, cdv, ct, osl, efd, lk, hcd⟩ := T.fn.ex
  exact codeIs_eq h lk
/-- what is told of an exception class -/
structure ExcAll (P : Program) (w : World) (K : PySem.W.Frag) (mg : Str → Option Value) (C : Addr) (x fld par : Str) : Prop where
  f : ∀ base : Heap, Nonempty (ExcF P w K mg base C x fld par)
  ec : ExcC K C
  xf : XfC K C
theorem ex_exc {P : Program} {w : World} {K : PySem.W.Frag} {mg : Str → Option Value} {h : Heap} {C f cc cda : Addr} {st : Stmt} {x qual fld par msg : Str} {dV kV doc pm ct oc : Value} {an od : Option Addr} {osl : Array (Option Value)} {ar : Arg} {p0 p1 p2 p3 p4 p5 p6 p7 p8 p9 : Pos} {j : Nat} {pl : Sem Bool}
    {nm q : Str} {N : Addr} {bs bm : List Value} {sn : List Str} {sub : List Value} {ab : Bool} {col : Option Bool} {dd : Option Addr} {k0 k1 k2 k3 k5 : Option Value} {cl ccl : Value} {cld cdd : Option Addr} {csl ccs : Array (Option Value)} {vs : Array Value} {file : Str} {tf : Tok} {cd : ClassData}
    (X : K.In h) (G : h.Ns mainGlobals mg) (a : PySem.W.nsIn K mainGlobals x = some (some (.ref C))) (i : PySem.W.findIn K (.ref C) "__init__" = some (some (.ref f))) (ty : PySem.W.typeIn K (.ref f) = some (.type "function"))
    (lk : K.lookup f = some ⟨oc, od, .func (PySem.W.ksFn "__init__" qual (defArgs st) (defBody st) (defScope st) dV kV doc pm an (.ref cda) ct cc), osl⟩) (hcd : PySem.W.codeIn K (.ref cda) qual = true)
    (lC : K.lookup C = some (excClassObj nm q C N bs bm true sn sub ab col dd k0 k1 k2 k3 k5 "ValueError.__new__")) (hr : PySem.HandSPX.refsVE bm = true)
    (sa : PySem.W.findIn K (.ref C) "__setattr__" = some (some (.builtin "object.__setattr__"))) (exC : PySem.W.subIn K (.ref C) (.type "BaseException") = some true) (tyC : PySem.W.typeIn K (.ref C) = some (.type "type")) (kC : PySem.W.keepIn K (.ref C) = true)
    (lcc : K.lookup cc = some ⟨cl, cld, .cell (some (.ref C)), csl⟩) (lcd : K.lookup cda = some ⟨ccl, cdd, .fields vs, ccs⟩) (hv : vs[2]? = some (.str file tf)) (hf : ((P.main.file : Str) == file) = true)
    (hc : PySem.W.clsIn K C = some cd) (mr : PySem.W.mroIn K C (.ref C) = some true) (sup : PySem.W.nsIn K mainGlobals "super" = some none) (ini : PySem.W.ks_superIn K C C "__init__" = some (some (.builtin "ValueError.__init__")))
    (subV : PySem.W.subIn K (.ref C) (.type "ValueError") = some true) (any : PySem.W.nsIn K cStatics "thirdparty.any" = some none) (nofld : PySem.W.findIn K (.ref C) fld = some none) (top : (P.main.scope.names.lookup ("super" : Str)).isSome = false)
    (hg : PySem.W.findIn K (.ref C) "__getattribute__" = some (some (.builtin "BaseException.__getattribute__"))) (hk : PySem.W.findIn K (.ref C) "__getattr__" = some none) (hd : PySem.W.hasDictIn K C = true) (ha : PySem.W.findIn K (.ref C) "__class__" = some (some (.builtin "object.__class__")))
    (hn : PySem.W.specialIn K (.builtin "object.__class__") "__get__" = some (some (.builtin "getset_descriptor.__get__"))) (ht : PySem.W.takesIn K (.builtin "object.__class__") = some true) (hm : PySem.W.mroIn K C (.type "object") = some true)
    (hb : defBody st = [.Expr (.Call (.Attribute (.Call (.Name "super" p0) [] [] p1) "__init__" p2) [.Constant (.str msg) j p3] [] p4) p5, .Assign [.Attribute (.Name "self" p6) fld p7] (.Name par p8) p9])
    (S : NScope ["self", par, "__class__"] ["self", par] ["__class__"] (defScope st))
    (hp : ((defArgs st).posonlyargs ++ (defArgs st).args).head? = some ar) (har : ar.arg = "self") (hks : (defScope st).names.lookup ("super" : Str) = some .globalImplicit) (hpd : (par == ("__debug__" : Str)) = false) (hpc : (par == ("__classdict__" : Str)) = false) (hps : par ≠ "self")
    (he : ∀ (f cda cc : Addr) L, eval (.Call (.Attribute (.Call (.Name "super" p0) [] [] p1) "__init__" p2) [.Constant (.str msg) j p3] [] p4) (PySem.W.ksEnv qual (defScope st) L f (.ref cda) cc) = (do
      let ov ← attributeBase (.Call (.Name "super" p0) [] [] p1) "__init__" (PySem.W.ksEnv qual (defScope st) L f (.ref cda) cc) (eval (.Call (.Name "super" p0) [] [] p1) (PySem.W.ksEnv qual (defScope st) L f (.ref cda) cc))
      standAt p2.atName
      let (fv, first) ← holding [ov] (getMethod ov "__init__" pl)
      callWith p4 fv first (backTo p4 (starEach [.Constant (.str msg) j p3] (PySem.W.ksEnv qual (defScope st) L f (.ref cda) cc))) []))
    (hs0 : ∀ (f cda cc : Addr) L, swapsWith (.Call (.Attribute (.Call (.Name "super" p0) [] [] p1) "__init__" p2) [.Constant (.str msg) j p3] [] p4) none p5.line (PySem.W.ksEnv qual (defScope st) L f (.ref cda) cc) = pure false)
    (hs1 : ∀ (f cda cc : Addr) L, swapsWith (.Name par p8) (some (.Attribute (.Name "self" p6) fld p7)) p9.line (PySem.W.ksEnv qual (defScope st) L f (.ref cda) cc) = pure false)
    (b : ∀ (us : List Value), us.length = (["self", par] : List Str).length → bindArgs (PySem.W.ksFn "__init__" qual (defArgs st) (defBody st) (defScope st) dV kV doc pm an (.ref cda) ct cc) ⟨us, []⟩ = pure ((["self", par] : List Str).zip us)) : ExcAll P w K mg C x fld par where
  f := fun base => ⟨excf_of (st := st) (PySem.W.mg_of X G a) i ty ⟨⟨⟨nm, q, N, bs, bm, sn, sub, ab, col, dd, k0, k1, k2, k3, k5, lC, hr⟩, sa, exC, tyC, kC⟩, ⟨cl, cld, csl, lcc⟩, ⟨ccl, cdd, vs, ccs, file, tf, lcd, hv, hf⟩, ⟨cd, hc⟩, mr, PySem.W.mg_none_of X G sup, ini, subV, any, nofld, top⟩
    hb lk hcd S hp har hks hpd hpc hps (he f cda cc) (hs0 f cda cc) (hs1 f cda cc) (.all b)⟩
  ec := ⟨hg, hk, exC, hd, ha, hn, ht, hm⟩
  xf := ⟨hg, hk, exC, hd⟩
end DL
namespace DL
open PySem PySem.Spec PyProof.Rows L2 Evl
section
variable {X : Cx} {B : Bx} {e : Expr} {r : DE} {pos : Pos} {C : Nat} {L : List Nat}
theorem call_isCA : CallR X (.builtin "isinstance") (fun xs H Q => (∃ u, SlX.rIsiSl X.K u xs H Q) ∨ rIsiD X.K xs H Q) := by
  intro pins s σ H xs us Q I r h
  rcases h with ⟨u, h⟩ | h
  · exact SlX.call_isiSl u pins s σ H xs us Q I r h
  · exact call_isiD pins s σ H xs us Q I r h
end
end DL
namespace DL
open PySem PySem.Spec PyProof.Rows L2 Evl
end DL
namespace DL
open PySem PySem.Spec PyProof.Rows L2 Evl
def obTs : List String := ["int", "bool", "str", "list", "tuple", "dict"]
structure ObjC (K : PySem.W.Frag) (C : Addr) : Prop where
  c : SlX.SCls K C
  si : SlX.SIsi K C
  kit : ∀ T ∈ obTs, PySem.W.kitOne K (.ref C) (.type T) = some false
def objB (K : PySem.W.Frag) (C1 : Addr) : Bool := PySem.W.plainGet K C1 Str.empty && (PySem.W.isClsIn K C1 && (PySem.W.plainOver K C1 && (decide (PySem.W.findIn K (.ref C1) "__setattr__" = some (some (.builtin "object.__setattr__"))) && (decide (PySem.W.findIn K (.ref C1) "__class__" = some (some (.builtin "object.__class__"))) &&
  (decide (PySem.W.specialIn K (.builtin "object.__class__") "__get__" = some (some (.builtin "getset_descriptor.__get__"))) && (decide (PySem.W.takesIn K (.builtin "object.__class__") = some true) && (decide (PySem.W.mroIn K C1 (.type "object") = some true) && (obTs.all fun T => decide (PySem.W.kitOne K (.ref C1) (.type T) = some false)))))))))
theorem objB_ok {K : PySem.W.Frag} {C1 : Addr} (h : objB K C1 = true) : ObjC K C1 := by
  obtain ⟨h1, h⟩ := Bool.and_eq_true_iff.mp h
  obtain ⟨h2, h⟩ := Bool.and_eq_true_iff.mp h
  obtain ⟨h3, h⟩ := Bool.and_eq_true_iff.mp h
  obtain ⟨h4, h⟩ := Bool.and_eq_true_iff.mp h
  obtain ⟨h5, h⟩ := Bool.and_eq_true_iff.mp h
  obtain ⟨h6, h⟩ := Bool.and_eq_true_iff.mp h
  obtain ⟨h7, h⟩ := Bool.and_eq_true_iff.mp h
  obtain ⟨h8, h9⟩ := Bool.and_eq_true_iff.mp h
  exact ⟨⟨h1, h2, h3, of_decide_eq_true h4⟩, ⟨of_decide_eq_true h5, of_decide_eq_true h6, of_decide_eq_true h7, of_decide_eq_true h8⟩, fun T hT => of_decide_eq_true (List.all_eq_true.mp h9 T hT)⟩
def isiA (T : String) (L : List Nat) (d : D) (Q : D → Prop) : Prop := match d with
  | .obj c _ => c ∈ L ∧ Q (.bl false)
  | d => pureD d = true ∧ Q (.bl (isi T d))
def dIsiA (T : String) (L : List Nat) (r : DE) : DE := fun δ Q => r δ fun d => isiA T L d Q
section
variable {T : String} {C c : Nat} {L : List Nat} {Q : D → Prop} {r : DE} {δ : DS} {fs xs : List D} {kvs : List (D × D)} {b : Bool} {i : Int} {x : Str}
theorem z_isiA : dIsiA T L r δ Q = r δ fun d => isiA T L d Q := propext Iff.rfl
theorem z_isiAo : isiA T L (.obj c fs) Q = (c ∈ L ∧ Q (.bl false)) := propext Iff.rfl
theorem z_isiAn : isiA T L .non Q = Q (.bl (isi T .non)) := propext ⟨fun h => h.2, fun h => ⟨rfl, h⟩⟩
theorem z_isiAb : isiA T L (.bl b) Q = Q (.bl (isi T (.bl b))) := propext ⟨fun h => h.2, fun h => ⟨rfl, h⟩⟩
theorem z_isiAi : isiA T L (.int i) Q = Q (.bl (isi T (.int i))) := propext ⟨fun h => h.2, fun h => ⟨rfl, h⟩⟩
theorem z_isiAs : isiA T L (.str x) Q = Q (.bl (isi T (.str x))) := propext ⟨fun h => h.2, fun h => ⟨rfl, h⟩⟩
theorem z_isiAl : isiA T L (.lst xs) Q = Q (.bl (isi T (.lst xs))) := propext ⟨fun h => h.2, fun h => ⟨rfl, h⟩⟩
theorem z_isiAt : isiA T L (.tup xs) Q = Q (.bl (isi T (.tup xs))) := propext ⟨fun h => h.2, fun h => ⟨rfl, h⟩⟩
theorem z_isiAd : isiA T L (.dic kvs) Q = Q (.bl (isi T (.dic kvs))) := propext ⟨fun h => h.2, fun h => ⟨rfl, h⟩⟩
theorem isiA_pure {d : D} (h : pureD d = true) (q : Q (.bl (isi T d))) : isiA T L d Q := by
  cases d with
  | obj _ _ => cases h
  | _ => exact ⟨h, q⟩
end
section
variable {X : Cx} {B : Bx} {e : Expr} {r : DE} {pos : Pos} {L : List Nat}
theorem pd_isiA {T : String} {tn : Str} {p q : Pos} (kn : knownTy T) (hT : T ∈ obTs) (ho : ∀ c ∈ L, ObjC X.K (B.ct c)) (hg : Gl X "isinstance") (hm : X.mg "isinstance" = none) (hgT : Gl X tn) (hmT : X.mg tn = none) (hvT : bootBuiltins tn = some (.type T)) (he : PD X B e r) (hn : tn ≠ "__name__" := by decide) (hdb : (tn == ("__debug__" : Str)) = false := by decide)
    (hs1 : starEach [e, .Name tn q] X.env = (false, eval e X.env) :: starEach [.Name tn q] X.env := by rfl) (hs2 : starEach [.Name tn q] X.env = (false, eval (.Name tn q) X.env) :: starEach [] X.env := by rfl) (hpl : (backTo pos (starEach [.Name tn q] X.env)).any (·.1) = false := by rfl) :
    PD X B (.Call (.Name "isinstance" p) [e, .Name tn q] [] pos) (dIsiA T L r) := pe_mono (pe_callB call_isCA hg hm (by decide +kernel) (pa_cons he (pa_cons (pe_bltn (v := .ty T) hgT hmT hvT rfl hn hdb) pa_nil hs2) hs1) (by decide) (by decide) hs1 hpl) fun σ H P q => by
  obtain ⟨H0, G, δ, Q, j, st, hr, k⟩ := q
  refine ⟨H0, G, δ, _, j, st, hr, fun d v G2 H2 q2 g2 h2 => ?_⟩
  have pure_ : pureD d = true ∧ Q (.bl (isi T d)) → (∃ u, SlX.rIsiSl X.K u [v, .ty T] H2 P) ∨ rIsiD X.K [v, .ty T] H2 P := fun ⟨hp, q3⟩ =>
    .inr ⟨v, .ty T, _, .type T, _, rfl, .ty T, ty_d g2.j.ex h2 hp, kit_ty (kn d hp), k _ _ G2 H2 q3 g2 (.bl _)⟩
  cases h2 with
  | @obj a dx c' vs fs h3 h4 h5 =>
    obtain ⟨hm, q3⟩ := q2
    have oc := ho _ hm
    exact .inl ⟨.type T, a, _, dx, _, .ty T, false, rfl, rfl, fun w hw => hw, .inr ⟨g2.j.ex _ _ h3, g2.j.ex _ _ h4⟩, oc.c, oc.si, oc.kit _ hT, k _ _ G2 H2 q3 g2 (.bl _)⟩
  | _ => exact pure_ q2
end
section
variable {X : Cx} {B : Bx} {a dd : Addr} {oe : Obj} {pn : List (Addr × Obj)} {f : Str} {y : D} {i : Nat} {p1 pos : Pos}
theorem pvs_retE {sts : List Stmt} {ea : Expr} {oa : Option D} (hs : sts = [.Return (some ea) pos]) (ha : PE (X.suite a ((a, oe) :: pn)) ea (tV X.K B a dd f y i oa)) : PSs (X.suite a ((a, oe) :: pn)) sts (tVS X.K B a dd f y i oa) := by
  rw [hs]
  exact pvs_ret ha
end
end DL
namespace DL
open PySem PySem.Spec PyProof.Rows L2 Evl PySem.W
end DL
namespace DL
open PySem PySem.Spec PyProof.Rows L2 Evl
end DL
namespace DL
open PySem PySem.Spec PyProof.Rows L2 LamX
end DL
namespace DL
open PySem PySem.Spec PyProof.Rows L2 Evl
section
variable {K : PySem.W.Frag} {B : Bx} {G H G2 H2 H3 : Hp}
inductive PrK (K : PySem.W.Frag) (B : Bx) (G H : Hp) : List Addr → List (Key × V) → List (D × OD) → Prop
  | nil : PrK K B G H [] [] []
  | cons {t : Addr} {k : Key} {v : V} {d : D} {ts : List Addr} {kvs : List (Key × V)} {os : List (D × OD)} : H t = some (.tup [kV k, v]) → Dat K B G v d → PrK K B G H ts kvs os → PrK K B G H (t :: ts) ((k, v) :: kvs) ((embK k, .sh d) :: os)
theorem PrK.keep (e : Ex G G2) (hk : ∀ a o, H a = some (.tup o) → H2 a = some (.tup o)) : ∀ {ts : List Addr} {kvs : List (Key × V)} {os : List (D × OD)}, PrK K B G H ts kvs os → PrK K B G2 H2 ts kvs os
  | _, _, _, .nil => .nil
  | _, _, _, .cons h1 h2 t => .cons (hk _ _ h1) (h2.mono e) (PrK.keep e hk t)
theorem PrK.gr {ts : List Addr} {kvs : List (Key × V)} {os : List (D × OD)} (j : Jn K B G H) (h : PrK K B G H ts kvs os) (g : Gr K B G H G2 H2) : PrK K B G2 H2 ts kvs os := h.keep g.ex (g.keepT j)
theorem PrK.append : ∀ {ts us : List Addr} {kvs lvs : List (Key × V)} {os ps : List (D × OD)}, PrK K B G H ts kvs os → PrK K B G H us lvs ps → PrK K B G H (ts ++ us) (kvs ++ lvs) (os ++ ps)
  | _, _, _, _, _, _, .nil, h => h
  | _, _, _, _, _, _, .cons h1 h2 t, h => .cons h1 h2 (t.append h)
theorem PrK.len : ∀ {ts : List Addr} {kvs : List (Key × V)} {os : List (D × OD)}, PrK K B G H ts kvs os → ts.length = os.length
  | _, _, _, .nil => rfl
  | _, _, _, .cons _ _ t => by rw [List.length_cons, List.length_cons, t.len]
end
end DL
namespace L2
open PySem PySem.Spec PyProof.Rows
end L2
namespace DL
open PySem PySem.Spec PyProof.Rows L2 Evl
end DL
namespace DL
open PySem PySem.Spec PyProof.Rows L2 Evl
section
variable {X : Cx} {B : Bx} {pins : List (Addr × Obj)} {σ : L2.St} {H : Hp} {s : Shared} {A1 : Around} {n : Nat} {f : Addr} {sp : Sp}
/-- the callee runs, wherever -/
theorem run_fnA {us : List Value} {vs : List V} {Q : VK} (F : FnR X.prog X.w X.K X.mg X.base CX0 n f sp) (sb : Sub X n A1) (I : Inv X pins σ H s) (r : Vals vs us) (h : sp vs H Q E0) :
    codeAny (model X.prog X.w) A1 (.call (.ref f) ⟨us, []⟩) (fun r s' => match r with | .ok (.ret v) => EP X pins σ Q v s' | .ok _ => False | .error _ => False) s := by
  have e := I.env0
  have e0 : Env0 X.prog X.w X.K X.mg X.base A1 X.stack s H := ⟨by rw [sb.fr]; exact e.frames, e.mod, e.bs, e.bsz, e.funs, e.frf, e.hok, e.bare⟩
  refine codeAny_mono (F A1 X.stack s H us vs Q E0 sb.room e0 r h) fun r s' hq => ?_
  cases r with
  | error e => exact False.elim hq
  | ok fl =>
    cases fl with
    | ret u => exact I.after hq
    | next => exact False.elim hq
    | brk => exact False.elim hq
    | cont => exact False.elim hq
theorem call_fnA {us : List Value} {vs : List V} {Q : VK} {E : Value → Shared → Prop} (F : FnR X.prog X.w X.K X.mg X.base CX0 n f sp) (sb : Sub X n A1) (I : Inv X pins σ H s) (r : Vals vs us) (h : sp vs H Q E0) :
    wpAny (model X.prog X.w) A1 (call (.ref f) us) (EP X pins σ Q) E s := by
  refine wpAny_call (codeAny_mono (run_fnA F sb I r h) fun r s' hq => ?_)
  cases r with
  | error e => exact False.elim hq
  | ok fl =>
    cases fl with
    | ret u => exact hq
    | next => exact hq
    | brk => exact hq
    | cont => exact hq
/-- what len() wants of the answer -/
def lenW (Q : VK) : VK := fun z H => ∃ m : Int, z = .int m ∧ (0 ≤ m ∧ m < 2 ^ 63) ∧ Q (.int m) H
theorem len_at {C dx a : Addr} {ws : List (Option V)} {Q : VK} {E : Value → Shared → Prop} (hs : PySem.W.findIn X.K (.ref C) "__len__" = some (some (.ref f))) (hf : PySem.W.isFn X.K (.ref f) = true)
    (F : FnR X.prog X.w X.K X.mg X.base CX0 n f sp) (sb : Sub X n A1.in1) (I : Inv X pins σ H s) (ha : SlX.Slt H a C dx ws) (h : sp [.ref a] H (lenW Q) E0) :
    wpAny (model X.prog X.w) A1 (call (.builtin "len") [.ref a]) (EP X pins σ Q) E s := by
  obtain ⟨sl, od, _, J, _⟩ := SlX.slt_inst I ha
  obtain ⟨mm, hF⟩ := I.fr
  refine PySem.W.len_K hF I.ok.mod.kin J hs hf ?_
  refine wpAny_mono (call_fnA (E := E) F sb I (us := [.ref a]) (vs := [V.ref a]) (.cons rfl .nil) h) (fun v s' z => ?_) fun _ _ z => z
  obtain ⟨z, H', I', rz, m, rfl, hm, q⟩ := z
  obtain ⟨t, rfl⟩ := (show ∃ t, v = Value.int m t from rz)
  exact ⟨hm, .int m, H', I'.tok _, ⟨_, rfl⟩, q⟩
end
section
variable {X : Cx} {B : Bx} {C k : Nat} {g : Addr} {S : FD}
/-- len(o) of an instance -/
def lenQ (Q : D → Prop) (d : D) : Prop := match d with
  | .int m => (0 ≤ m ∧ m < 2 ^ 63) ∧ Q (.int m)
  | _ => False
def cLenO (C : Nat) (S : FD) : FD := fun ds Q => match ds with
  | [x] => isO C x ∧ S [x] (lenQ Q)
  | _ => False
theorem call_lenO (hs : PySem.W.findIn X.K (.ref (B.ct C)) "__len__" = some (some (.ref g))) (hf : PySem.W.isFn X.K (.ref g) = true) (F : FnR X.prog X.w X.K X.mg X.base CX0 k g (spD X.K B S)) (hr : Room (k + 1) X.A) :
    CallR X (.builtin "len") (cLift X.K B (cLenO C S)) := by
  intro pins s σ H xs us P I rv h
  obtain ⟨G, ds, Q, j, hd, hS, kk⟩ := h
  cases hd with
  | nil => exact hS.elim
  | cons hx ht =>
    cases ht with
    | cons _ _ => exact hS.elim
    | nil =>
      obtain ⟨o1, hS⟩ := hS
      cases hx with
      | @obj a d1 C1 vs fs h3 h4 h5 =>
        have o1 : C1 = C := o1
        subst o1
        obtain ⟨u, rfl, ru⟩ := vals1 rv
        cases (show u = Value.ref a from ru)
        have sb : Sub X k X.A.in1 := Sub.in1 ⟨hr, rfl⟩
        refine len_at (E := X.xe) hs hf F sb I (obj_slt (K := X.K) (B := B) j.ex h3 h4) ⟨G, _, _, j, .cons (.obj h3 h4 h5) .nil, hS, fun d v G2 H2 q2 g2 d2 => ?_⟩
        cases d2 with
        | int m => exact ⟨m, rfl, q2.1, kk _ _ G2 H2 q2.2 g2 (.int m)⟩
        | _ => exact q2.elim
      | _ => exact o1.elim
end
def seqK (d : D) : D := match d with
  | .ktup xs => .tup xs
  | d => d
theorem ty_k {K : PySem.W.Frag} {G H : Hp} {v : V} {d : D} (e : Ex G H) (h : Dat K B G v d) (p : pureD (seqK d) = true) : TyY K H v (tyN (seqK d)) := by
  cases h with
  | ktup h t =>
    rcases ex_t e h with r | ⟨o, its, m, l, c, dd, _⟩
    · rcases r with r | ⟨o, r⟩
      · exact .inl (.base (.tup r))
      · exact .inl (.fTuple r)
    · exact .inl (.kTuple l c)
  | non => exact .inl (.base .non)
  | bl b => exact .inl (.base (.bl b))
  | int i => exact .inl (.base (.int i))
  | str x => exact .inl (.base (.str x))
  | lst h t => exact ty_d e (.lst h t) p
  | tup h t => exact ty_d e (.tup h t) p
  | dK h t => exact ty_d e (.dK h t) p
  | dT h t => exact ty_d e (.dT h t) p
  | bag => cases p
  | obj _ _ _ => cases p
def isi2 (T U : String) (d : D) : Bool := isi T (seqK d) || isi U (seqK d)
def rIsi2 (K : PySem.W.Frag) : List V → Hp → VK → Prop := fun xs H Q => ∃ (x : V) (tp : Addr) (cs : List V) (T : String) (us : List Value) (b : Bool), xs = [x, .ref tp] ∧ H tp = some (.tup cs) ∧ Paired ClsV cs us ∧ TyY K H x T ∧ PySem.W.kitAny K (.type T) us = some b ∧ Q (.bl b) H
theorem call_isi2 {X : Cx} : CallR X (.builtin "isinstance") (rIsi2 X.K) := by
  intro pins s σ H xs us Q I r h
  obtain ⟨x, tp, cs, T, ws, b, rfl, hT, k, ty, e, q⟩ := h
  rcases ty with ty | ⟨a, od, kvs, rfl, ha, rfl⟩
  · exact call_isiT pins s σ H _ us Q I r ⟨x, tp, cs, _, ws, b, rfl, hT, k, ty, e, q⟩
  · obtain ⟨u1, u2, rfl, r1, r2⟩ := vals2 r
    cases (show u2 = Value.ref tp from r2)
    cases (show u1 = Value.ref a from r1)
    obtain ⟨_, _, _, _, _, o, es, ep, h1, h2, _⟩ := (show ObjOk X.prog X.w H s.heap a (.frz od (.dT kvs)) from I.hok a _ ha)
    obtain ⟨_, its, rv, o2, g1, g2, n, g3⟩ := (show ObjOk X.prog X.w H s.heap tp (.tup cs) from I.hok tp _ hT)
    have e3 := ClsV.all k rv
    subst e3
    obtain ⟨oc, od2, dt, sl⟩ := o2
    simp only at g2 g3
    subst g2 g3
    exact PySem.W.kia_tup PySem.W.kitx_dict I.kIn ⟨o, h1, h2.1⟩ g1 e (fun z => nomatch z) fun tk => ⟨.bl b, H, I.tok tk, rfl, q⟩
theorem kit2 {K : PySem.W.Frag} {a T U : String} {x y : Bool} (h1 : kitB a T = some x) (h2 : kitB a U = some y) : PySem.W.kitAny K (.type a) [.type T, .type U] = some (x || y) := by
  refine kitAny_cons (b := x) (kit_ty h1) (fun hx => ?_) (fun hx => by rw [hx]; rfl)
  subst hx
  refine kitAny_cons (b := y) (kit_ty h2) (fun hy => ?_) (fun hy => by rw [hy]; rfl)
  subst hy
  exact kitAny_nil
structure InAtD (K : PySem.W.Frag) (x qual : Str) (st : Stmt) (ps : List Str) where
  f : Addr
  fd : FuncData
  a : Addr
  fn : FunD K x qual (defArgs st) (defBody st) (defScope st) [.ref a] [] f fd
  tu : ∀ G, SqT K G a []
  bd : Binds K fd ps []
  bd1 : ∃ ds, Vals [.ref a] ds ∧ Binds K fd ps ds
section
variable {P : Program} {w : World} {K : PySem.W.Frag} {mg : Str → Option Value} {base : Heap}
theorem fn_initD {x qual : Str} {st : Stmt} {f a : Addr} {fd : FuncData} {N ps : List Str} {k : Nat} {B : Bx} {C : Nat} {S : FI} {t : DTS} (F : FunD K x qual (defArgs st) (defBody st) (defScope st) [.ref a] [] f fd) (Sc : FnScope N ps (defScope st)) (len : ∀ ds Q, S ds Q → ds.length + 1 = ps.length) (hN : 1 ≤ N.length)
    (hbody : ∀ (cdv : Value) (A : Around) (outer : List Env) (s : Shared) (H : Hp) (E : XK), Room k (A.deeper (envOfC qual (defScope st) s.heap.objs.size f cdv)) → PSsD (cxOf CX0 P w K mg base N qual (defScope st) f cdv A outer s H E).nox B (defBody st) t)
    (vc : ∀ x ds Q, S ds Q → t (endI x C Q) (startI N.length x C ds)) : FnOk P w K mg base CX0 (k + 1) f fd ps (spI K B C S) := by
  refine F.ok Sc (fun vs H Q E h => ?_) (fun cdv A outer s H vs Q E hr h => ⟨_, (hbody cdv A outer s H E hr).nox, init_lift hN vc h⟩)
  obtain ⟨x, dx, ws, G, ds, R, rfl, _, _, _, _, _, _, _, _, hd, hs, _⟩ := h
  rw [List.length_cons, hd.len]
  exact len ds R hs
theorem ex_initD {qual : Str} {st : Stmt} {ps : List Str} {f C T : Addr} {oc : Value} {od an : Option Addr} {osl : Array (Option Value)} {kV doc pm cdv ct : Value} {oT : Obj} {aT : Addr} {n m : Nat} {nT : Nat}
    (h2 : ∀ (T : Addr) (kV doc pm : Value) (an : Option Addr) (cdv ct : Value) (us its : List Value), us.length = m + 1 → its.length = 1 →
      ∃ k, bindArgs (PySem.W.fnOf "__init__" qual (defArgs st) (defBody st) (defScope st) (.ref T) kV doc pm an cdv ct) ⟨us, []⟩ = seqItems? (.ref T) >>= k ∧ k (some its.toArray) = pure (ps.zip (us ++ its.drop 1)))
    (h1 : ∀ (T : Addr) (kV doc pm : Value) (an : Option Addr) (cdv ct : Value) (us its : List Value), us.length = m → its.length = 1 →
      ∃ k, bindArgs (PySem.W.fnOf "__init__" qual (defArgs st) (defBody st) (defScope st) (.ref T) kV doc pm an cdv ct) ⟨us, []⟩ = seqItems? (.ref T) >>= k ∧ k (some its.toArray) = pure (ps.zip (us ++ its.drop 0)))
    (hm : m + 1 = ps.length)
    (a : PySem.W.findIn K (.ref C) "__init__" = some (some (.ref f))) (i : PySem.W.isFn K (.ref f) = true) (l : K.lookup f = some ⟨oc, od, .func (PySem.W.fnOf "__init__" qual (defArgs st) (defBody st) (defScope st) (.ref T) kV doc pm an cdv ct), osl⟩) (c : PySem.W.codeIn K cdv qual = true) (k : PySem.W.keepIn K (.ref f) = true)
    (lT : K.lookup T = some oT) (dT : oT.data = .seq #[.ref aT] nT) {oe : Obj} {ne : Nat} (le : K.lookup aT = some oe) (ce : oe.cls = .type "tuple") (de : oe.data = .seq #[] ne)
    (mk : PySem.W.makesIn K C = true) (kc : PySem.W.keepIn K (.ref C) = true) :
    ∃ t : InAtD K "__init__" qual st ps, Mk K C t.f := by
  have F : FunD K "__init__" qual (defArgs st) (defBody st) (defScope st) [V.ref aT] [] f _ := ⟨⟨oc, od, .ref T, kV, doc, pm, an, cdv, ct, osl, rfl, l, c, .inr ⟨by simp, T, oT, [.ref aT], nT, rfl, lT, dT, .cons rfl .nil⟩, .inl rfl⟩, k⟩
  have b0 := F.binds1 (m + 1) 1 (by simp) (by simp; omega) h2
  have b1 := F.binds1 m 0 (by simp) (by simp; omega) h1
  obtain ⟨ds, hv, hb⟩ := b0
  cases hv
  exact ⟨⟨f, _, aT, F, fun G => .inr ⟨oe, #[], ne, le, ce, de, Nat.zero_le _, .nil⟩, hb, b1⟩, mk, a, i, kc⟩
end
end DL
namespace DL
open PySem PySem.Spec PyProof.Rows L2 Evl
end DL
namespace DL
open PySem PySem.Spec PyProof.Rows L2 Evl
section
variable {X : Cx} {B : Bx} {C i k : Nat} {gi gl : Addr} {S : FD} {e : Expr} {r : DE} {p pos : Pos}
theorem pd_lenO (hl : Meth X.K (B.ct C) "__len__" gl) (FL : FnR X.prog X.w X.K X.mg X.base CX0 k gl (spD X.K B S)) (hr : Room (k + 1) X.A) (hg : Gl X "len") (hm : X.mg "len" = none) (he : PD X B e r) (hs : starEach [e] X.env = (false, eval e X.env) :: starEach [] X.env := by rfl) (hpl : (backTo pos (starEach [] X.env)).any (·.1) = false := by rfl) :
    PD X B (.Call (.Name "len" p) [e] [] pos) (dCall (cLenO C S) (dCons r dNil)) := pd_callB (call_lenO hl.at_ hl.fn FL hr) hg hm (by decide +kernel) (pad_cons he pad_nil hs) (by decide) (by decide) hs hpl
end
section
variable {C i : Nat} {S : FD} {r : DE} {δ : DS} {Q : D → Prop} {QL : List D → Prop} {d : D} {ds : List D}
theorem z_lenO : cLenO C S [d] Q = (isO C d ∧ S [d] (lenQ Q)) := propext Iff.rfl
end
def seqQ (d : D) (Q : List D → Prop) : Prop := match d with
  | .lst xs => Q xs
  | .tup xs => Q xs
  | .ktup xs => Q xs
  | _ => False
def iSeqK (r : DE) : DA := fun δ Q => r δ fun d => seqQ d Q
theorem pid_seqK {X : Cx} {B : Bx} {e : Expr} {r : DE} {tg : Expr} (he : PD X B e r) : PID X B tg e (iSeqK r) := by
  refine ⟨fun pins s σ H R I h => ?_⟩
  obtain ⟨H0, G, δ, Q, j, st, hr, k⟩ := h
  refine thn (he.run pins s σ H (fun x H1 => ∃ G2 d, seqQ d Q ∧ Gr X.K B G H G2 H1 ∧ Dat X.K B G2 x d) I ⟨H0, G, δ, _, j, st, hr, fun d v G2 H2 q2 g2 h2 => ⟨G2, d, q2, g2, h2⟩⟩) fun v s1 ⟨x, H1, I1, r1, q1⟩ => ?_
  obtain ⟨G2, d, q2, g2, h2⟩ := q1
  cases h2 with
  | @lst a xs ds h3 h4 =>
    cases r1
    obtain ⟨its, rv, p, hz⟩ := I1.list (sq_of (g2.j.ex _ _ h3))
    exact wpAny_pyIter_list p.isList (pi_one (tk := s1.toks) I1 _ (turn_list a _) ⟨_, Heap.get?_push_size _ rfl, rfl, rfl⟩ (k ds _ G2 H1 q2 g2 (itd_list h3 h4)))
  | @tup a xs ds h3 h4 =>
    cases r1
    obtain ⟨its, rv, p, hz⟩ := I1.tuple (tx g2.j.ex h3)
    exact wpAny_pyIter_tuple (show s1.heap.IsTuple a its.toArray from p) (pi_one (tk := s1.toks) I1 _ (turn_tuple a _) ⟨_, Heap.get?_push_size _ rfl, rfl, rfl⟩ (k ds _ G2 H1 q2 g2 (itd_tup (st_of h3) h4)))
  | @ktup a xs ds h3 h4 =>
    cases r1
    obtain ⟨its, rv, p, hz⟩ := I1.tuple (ex_t g2.j.ex h3)
    exact wpAny_pyIter_tuple (show s1.heap.IsTuple a its.toArray from p) (pi_one (tk := s1.toks) I1 _ (turn_tuple a _) ⟨_, Heap.get?_push_size _ rfl, rfl, rfl⟩ (k ds _ G2 H1 q2 g2 (itd_tup h3 h4)))
  | _ => exact q2.elim
section
variable {r : DE} {δ : DS} {QL : List D → Prop} {xs : List D}
theorem z_seqK : iSeqK r δ QL = r δ fun d => seqQ d QL := propext Iff.rfl
theorem z_seqKl : seqQ (.lst xs) QL = QL xs := propext Iff.rfl
theorem z_seqKt : seqQ (.tup xs) QL = QL xs := propext Iff.rfl
theorem z_seqKk : seqQ (.ktup xs) QL = QL xs := propext Iff.rfl
end
end DL
namespace DL
open PySem PySem.Spec PyProof.Rows L2 Evl
def scTD (d : D) (Q : D → Prop) : Prop := match d with
  | .tup ds => ds.all scal = true ∧ Q (.tup ds)
  | d => scal d = true ∧ Q d
section
variable {X : Cx} {B : Bx}
theorem bor_core3 {pins : List (Addr × Obj)} {σ : L2.St} {s : Shared} {H0 G H : Hp} {δ : DS} {i : Nat} {v : V} {o : OD} (I : Inv X pins σ H s) (j : Jn X.K B G H) (st : StOk X.K B H0 G H σ δ) (h1 : δ[i]? = some (some (.ow v o))) :
    ∃ G1 L, Inv X pins σ L s ∧ Jn X.K B G1 L ∧ StOk X.K B H0 G1 L σ (δ.set i (some (.sh o.toD))) ∧ ∀ s2 G2 H2, Inv X pins σ H2 s2 → Gr X.K B G1 L G2 H2 → ∃ U G3, Inv X pins σ U s2 ∧ Gr X.K B G H G3 U ∧ ∀ a vs, H2 a = some (.tup vs) → U a = some (.tup vs) := by
  obtain ⟨F, y⟩ := st.ex
  obtain ⟨e1, e2, e3, e4⟩ := y.ow h1
  obtain ⟨L, I2, l⟩ := lock_all (F i) I e3
  have hG : ∀ p ∈ F i, G p = none := fun p hp => (e2.node p hp).1
  have ex := frz_ex (G := G) (H := L) hG
  have nb : B.b ∉ F i := fun z => (e4 _ z).2.1.1 rfl
  have kinds := lkd_kinds l fun p hp => e2.node p hp
  have nf : ∀ p ∈ F i, ∀ o' u', X.H_0 p ≠ some (.frz o' u') := fun p hp => by
    rcases (e2.node p hp).2 with ⟨vs, a⟩ | ⟨vs, a⟩ | ⟨vs, a⟩ <;> exact I.nofrz a trivial
  have nn : ∀ a, ¬ B.nb a → a ∉ F i := fun a n z => n (e4 a z).2
  have xt : Xt B (frzG G L (F i)) L := j.next ex (fun a o n h => (l.out a (nn a n)).trans h) (fun a n _ => by unfold frzG; rw [if_neg (nn a n)]) (fun t h _ => by
    have nt : t.1 ∉ F i := fun z => (e4 _ z).2.tab t h rfl
    exact ⟨l.out _ nt, fun z => by unfold frzG; rw [if_neg nt]; exact z⟩) (fun a ps h => by
    by_cases ha : a ∈ F i
    · rcases kinds a ha with ⟨vs, _, b⟩ | ⟨u, od, _, b⟩ <;> rw [b] at h <;> cases h
    · rw [l.out a ha] at h
      exact ⟨_, h⟩)
  refine ⟨frzG G L (F i), L, I2, ⟨fun a u h => ?_, ?_, ?_, xt⟩, ?_, fun s2 G2 H2 J g => ?_⟩
  · unfold frzG at h
    split at h
    · exact h
    · rename_i hn
      rw [l.out a hn]
      exact j.ex a u h
  · unfold frzG
    rw [if_neg nb]
    exact j.no
  · obtain ⟨a, b, c, ns, h1, h2, h3⟩ := j.bag
    exact ⟨a, b, c, ns, by rw [l.out _ nb]; exact h1, ex_l ex h2, h3⟩
  · have s3 := y.put (i := i) (List.getElem?_eq_some_iff.mp e1).1 ex (H2 := L) (fun p _ _ hp => ⟨l.out p hp, by unfold frzG; rw [if_neg hp]⟩) (.sh (e2.dat hG l fun p hp => hp)) fun p hp => nomatch hp
    rw [set_same e1] at s3
    exact ⟨_, s3⟩
  · have h2 : ∀ p ∈ F i, H2 p = L p := fun p hp => by
      rcases kinds p hp with ⟨vs, _, b⟩ | ⟨u, od, _, b⟩ <;> rw [b] <;> exact g.keep p _ (e4 p hp).2 b
    obtain ⟨U, J2, u1, u2⟩ := unlock_all (H := H) (L := L) (F i) J e3 kinds h2 nf
    refine ⟨U, codG G G2, J2, Gr.back j g ex l.out (fun p hp => ?_) (fun p hp => (e4 p hp).2) hG u1 u2, fun a vs h => (u2 a fun z => ?_).trans h⟩
    rotate_left
    · rw [h2 a z] at h
      rcases kinds a z with ⟨vs, _, b⟩ | ⟨u, od, _, b⟩ <;> rw [b] at h <;> cases h
    rw [h2 p hp]
    rcases kinds p hp with ⟨vs, _, b⟩ | ⟨u, od, _, b⟩
    · exact ⟨_, b, ncod (nl rfl)⟩
    · exact ⟨_, b, ncod (nl rfl)⟩
def dBorT (i : Nat) (r : DE) : DE := fun δ Q => ownO δ[i]? fun _ o => r (δ.set i (some (.sh o.toD))) fun d => scTD d Q
theorem pd_borT {e : Expr} {r : DE} (i : Nat) (h : PD X B e r) : PD X B e (dBorT i r) := ⟨fun pins s σ H P I q => by
  obtain ⟨H0, G, δ, Q, j, st, hr, k⟩ := q
  have hr : ownO δ[i]? fun _ o => r (δ.set i (some (.sh o.toD))) fun d => scTD d Q := hr
  unfold ownO at hr
  split at hr
  · rename_i v o h1
    obtain ⟨G1, L, I2, j1, s1, back⟩ := bor_core3 I j st h1
    refine thn (h.run pins s σ L (fun x H2 => ∃ G2 d, scTD d Q ∧ Gr X.K B G1 L G2 H2 ∧ Dat X.K B G2 x d) I2 ⟨H0, G1, _, _, j1, s1, hr, fun d x G2 H2 q2 g2 h2 => ⟨G2, d, q2, g2, h2⟩⟩) fun u s2 ⟨x, H2, J, r2, G2, d, q2, g2, h2⟩ => ?_
    obtain ⟨U, G3, J2, g3, tu⟩ := back s2 G2 H2 J g2
    by_cases sc : scal d = true
    · have q2 : Q d := by
        cases d with
        | tup ds => cases sc
        | _ => exact q2.2
      exact ⟨x, U, J2, r2, k d x G3 U q2 g3 (scal_dat h2 sc)⟩
    · cases d with
      | tup ds =>
        cases h2 with
        | @tup a xs _ ga hx =>
          have ua := tu a xs (g2.j.ex _ _ ga)
          have hx3 := scal_dats (G2 := G3) hx q2.1
          cases e3 : G3 a with
          | none =>
            exact ⟨_, U, J2, r2, k _ _ _ U q2.2 (g3.trans (Gr.learn g3.j ua e3)) (.tup upd_same (hx3.mono (Ex.new e3)))⟩
          | some o' =>
            have := g3.j.ex _ _ e3
            rw [ua] at this
            cases this
            exact ⟨_, U, J2, r2, k _ _ _ U q2.2 g3 (.tup e3 hx3)⟩
      | _ => exact absurd q2.1 sc
  · exact hr.elim⟩
end
section
variable {i : Nat} {r : DE} {δ : DS} {Q : D → Prop}
theorem z_borT : dBorT i r δ Q = ownO δ[i]? fun _ o => r (δ.set i (some (.sh o.toD))) fun d => scTD d Q := propext Iff.rfl
theorem z_scTN : scTD .non Q = Q .non := by unfold scTD; simp [scal]
theorem z_scTB {b : Bool} : scTD (.bl b) Q = Q (.bl b) := by unfold scTD; simp [scal]
theorem z_scTI {b : Int} : scTD (.int b) Q = Q (.int b) := by unfold scTD; simp [scal]
theorem z_scTS {b : Str} : scTD (.str b) Q = Q (.str b) := by unfold scTD; simp [scal]
theorem z_scTT {ds : List D} : scTD (.tup ds) Q = (ds.all scal = true ∧ Q (.tup ds)) := propext Iff.rfl
end
end DL
namespace DL
open PySem PySem.Spec PyProof.Rows L2 Evl
end DL
namespace DL
open PySem PySem.Spec PyProof.Rows L2 Evl
end DL
namespace DL
open PySem PySem.Spec PyProof.Rows L2 Evl PySem.W
end DL
namespace DL
open PySem PySem.Spec PyProof.Rows L2 Evl PySem.W
end DL
namespace DL
open PySem PySem.Spec PyProof.Rows L2 Evl PySem.W
end DL
namespace DL
open PySem PySem.Spec PyProof.Rows L2 Evl PySem.W
end DL
namespace DL
open PySem PySem.Spec PyProof.Rows L2 Evl PySem.W
end DL
namespace DL
open PySem PySem.Spec PyProof.Rows L2 Evl
def inQ (neg : Bool) (Q : D → Prop) (z : D) : Prop := match z with
  | .bl b => Q (.bl (cond neg (!b) b))
  | _ => False
def oInO (neg : Bool) (C : Nat) (S : FD) : O2 := fun x y Q => isO C y ∧ S [y, x] (inQ neg Q)
section
variable {X : Cx} {B : Bx} {g : Addr} {C k : Nat} {S : FD}
theorem inO_core {neg : Bool} {pins : List (Addr × Obj)} {s : Shared} {σ : L2.St} {H : Hp} {x y : V} {v u : Value} {P : VK} {op : CmpOp}
    (rule : ∀ {a dx : Addr} {ws : List V}, u = .ref a → SlX.Slt H a (B.ct C) dx (ws.map some) → wpAny (model X.prog X.w) X.A (call (.ref g) [.ref a, v]) (fun r s' => ∃ b, r = .bool b ∧ EP X pins σ P (.bool (cond neg (!b) b)) s') X.xe s → wpAny (model X.prog X.w) X.A (compareOp op v u) (EP X pins σ P) X.xe s)
    (F : FnR X.prog X.w X.K X.mg X.base CX0 k g (spD X.K B S)) (hr : Room k X.A) (I : Inv X pins σ H s) (rx : RelV x v) (ry : RelV y u) (q : rLift X.K B (oInO neg C S) x y H P) : wpAny (model X.prog X.w) X.A (compareOp op v u) (EP X pins σ P) X.xe s := by
  obtain ⟨G, dx, dy, Q, j, hx, hy, ⟨o1, hq⟩, kk⟩ := q
  cases hy with
  | @obj a d1 C1 vs fs h3 h4 h5 =>
    have o1 : C1 = C := o1
    subst o1
    cases (show u = Value.ref a from ry)
    refine rule rfl (obj_slt (K := X.K) (B := B) j.ex h3 h4) ?_
    refine wpAny_mono (wpAny_call (run_fnR (E := E0) (us := [.ref a, v]) (vs := [.ref a, x]) F hr pass0 I (.cons rfl (.cons rx .nil)) (Q := fun z H' => ∃ b, z = .bl b ∧ P (.bl (cond neg (!b) b)) H') ⟨G, _, _, j, .cons (.obj h3 h4 h5) (.cons hx .nil), hq, fun d w G2 H2 q2 g2 h2 => ?_⟩)) (fun w s' z => ?_) fun _ _ x => x
    · cases h2 with
      | bl b => exact ⟨b, rfl, kk _ _ G2 H2 q2 g2 (.bl _)⟩
      | _ => exact q2.elim
    · obtain ⟨z', H', I', rz, b, rfl, qz⟩ := z
      cases (show w = Value.bool b from rz)
      exact ⟨b, rfl, .bl (cond neg (!b) b), H', I', rfl, qz⟩
  | _ => exact o1.elim
theorem op_inO (hs : PySem.W.findIn X.K (.ref (B.ct C)) "__contains__" = some (some (.ref g))) (hf : PySem.W.isFn X.K (.ref g) = true) (F : FnR X.prog X.w X.K X.mg X.base CX0 k g (spD X.K B S)) (hr : Room k X.A) : OpR X (compareOp .In) (rLift X.K B (oInO false C S)) := by
  intro pins s σ H x y v u P I rx ry q
  refine inO_core (fun {a dx ws} e hsl hw => ?_) F hr I rx ry q
  subst e
  obtain ⟨sl, od, _, J, _⟩ := SlX.slt_inst I hsl
  obtain ⟨mm, hF⟩ := I.fr
  refine PySem.W.in_K hF I.ok.mod.kin J hs hf (wpAny_mono hw (fun r s' z => ?_) fun _ _ z => z)
  obtain ⟨b, rfl, z⟩ := z
  exact wpAny_truthy_bool z
end
section
variable {C c : Nat} {S : FD} {Q : D → Prop} {x : D} {fs : List D} {b : Bool}
theorem z_inO : oInO false C S x (.obj c fs) Q = (c = C ∧ S [.obj c fs, x] (inQ false Q)) := propext Iff.rfl
theorem z_ninO : oInO true C S x (.obj c fs) Q = (c = C ∧ S [.obj c fs, x] (inQ true Q)) := propext Iff.rfl
theorem z_inQ : inQ false Q (.bl b) = Q (.bl b) := propext Iff.rfl
theorem z_ninQ : inQ true Q (.bl b) = Q (.bl (!b)) := propext Iff.rfl
end
def rIsiO2 (K : PySem.W.Frag) : List V → Hp → VK → Prop := fun xs H Q => ∃ (a C dx : Addr) (vs : List (Option V)) (tp : Addr) (cs : List V) (us : List Value) (b : Bool), xs = [V.ref a, .ref tp] ∧ SlX.Slt H a C dx vs ∧ SlX.SCls K C ∧ SlX.SIsi K C ∧ H tp = some (.tup cs) ∧ Paired ClsV cs us ∧ PySem.W.kitAny K (.ref C) us = some b ∧ Q (.bl b) H
theorem call_isiO2 {X : Cx} : CallR X (.builtin "isinstance") (fun xs H Q => rIsiO2 X.K xs H Q ∨ rIsi2 X.K xs H Q) := by
  intro pins s σ H xs us Q I r h
  rcases h with h | h
  · obtain ⟨a, C, dx, vs, tp, cs, ws, b, rfl, hsl, hc, hi, hT, k, e, q⟩ := h
    obtain ⟨u1, u2, rfl, r1, r2⟩ := vals2 r
    cases (show u1 = Value.ref a from r1)
    cases (show u2 = Value.ref tp from r2)
    obtain ⟨_, its, rv, o2, g1, g2, n, g3⟩ := (show ObjOk X.prog X.w H s.heap tp (.tup cs) from I.hok tp _ hT)
    have e3 := ClsV.all k rv
    subst e3
    obtain ⟨oc, od2, dt, sl2⟩ := o2
    simp only at g2 g3
    subst g2 g3
    obtain ⟨sl, od, _, J, _⟩ := SlX.slt_inst I hsl
    exact PySem.W.kia_tup (OwX.kitx_slt hc.ic (hc.get _) hi.ca hi.cn hi.ct hi.cm) I.kIn J g1 e (fun z => nomatch z) fun tk => ⟨.bl b, H, I.tok tk, rfl, q⟩
  · exact call_isi2 pins s σ H xs us Q I r h
theorem kitO2 {K : PySem.W.Frag} {C : Addr} {T U : String} (h1 : PySem.W.kitOne K (.ref C) (.type T) = some false) (h2 : PySem.W.kitOne K (.ref C) (.type U) = some false) : PySem.W.kitAny K (.ref C) [.type T, .type U] = some false :=
  kitAny_cons (b := false) h1 (fun _ => kitAny_cons (b := false) h2 (fun _ => kitAny_nil) (fun hx => nomatch hx)) (fun hx => nomatch hx)
def isi2A (T U : String) (L : List Nat) (d : D) (Q : D → Prop) : Prop := match d with
  | .obj c _ => c ∈ L ∧ Q (.bl false)
  | d => pureD (seqK d) = true ∧ Q (.bl (isi2 T U d))
def dIsi2A (T U : String) (L : List Nat) (r : DE) : DE := fun δ Q => r δ fun d => isi2A T U L d Q
theorem pd_isi2A {X : Cx} {B : Bx} {e : Expr} {r : DE} {pos : Pos} {T U : String} {L : List Nat} {tn un : Str} {p q q2 pt : Pos} {x1} (kn : knownTy T) (kn2 : knownTy U) (hT : T ∈ obTs) (hU : U ∈ obTs) (ho : ∀ c ∈ L, ObjC X.K (B.ct c)) (hg : Gl X "isinstance") (hm : X.mg "isinstance" = none) (hgT : Gl X tn) (hmT : X.mg tn = none) (hvT : bootBuiltins tn = some (.type T)) (hgU : Gl X un) (hmU : X.mg un = none) (hvU : bootBuiltins un = some (.type U)) (he : PD X B e r)
    (hn : tn ≠ "__name__" := by decide) (hdb : (tn == ("__debug__" : Str)) = false := by decide) (hn2 : un ≠ "__name__" := by decide) (hdb2 : (un == ("__debug__" : Str)) = false := by decide)
    (hs1 : starEach [e, .Tuple [.Name tn q, .Name un q2] x1 pt] X.env = (false, eval e X.env) :: starEach [.Tuple [.Name tn q, .Name un q2] x1 pt] X.env := by rfl) (hs2 : starEach [.Tuple [.Name tn q, .Name un q2] x1 pt] X.env = (false, eval (.Tuple [.Name tn q, .Name un q2] x1 pt) X.env) :: starEach [] X.env := by rfl)
    (hs3 : starEach [.Name tn q, .Name un q2] X.env = (false, eval (.Name tn q) X.env) :: starEach [.Name un q2] X.env := by rfl) (hs4 : starEach [.Name un q2] X.env = (false, eval (.Name un q2) X.env) :: starEach [] X.env := by rfl)
    (hpl : (backTo pos (starEach [.Tuple [.Name tn q, .Name un q2] x1 pt] X.env)).any (·.1) = false := by rfl) :
    PD X B (.Call (.Name "isinstance" p) [e, .Tuple [.Name tn q, .Name un q2] x1 pt] [] pos) (dIsi2A T U L r) := pe_mono (pe_callB call_isiO2 hg hm (by decide +kernel) (pa_cons he (pa_cons (pe_tup (pa_cons (pe_bltn (v := .ty T) hgT hmT hvT rfl hn hdb) (pa_cons (pe_bltn (v := .ty U) hgU hmU hvU rfl hn2 hdb2) pa_nil hs4) hs3)) pa_nil hs2) hs1) (by decide) (by decide) hs1 hpl) fun σ H P q => by
  obtain ⟨H0, G, δ, Q, j, st, hr, k⟩ := q
  refine ⟨H0, G, δ, _, j, st, hr, fun d v G2 H2 q2 g2 h2 => ?_⟩
  refine ⟨by show 2 ≤ sizeLine; decide, fun t ht => ?_⟩
  have g3 := Gr.new0 (o := .tup [.ty T, .ty U]) g2.j ht
  have pure_ : pureD (seqK d) = true ∧ Q (.bl (isi2 T U d)) → rIsiO2 X.K [v, .ref t] (upd H2 t (.tup [.ty T, .ty U])) P ∨ rIsi2 X.K [v, .ref t] (upd H2 t (.tup [.ty T, .ty U])) P := fun ⟨hp, q3⟩ =>
    .inr ⟨v, t, _, tyN (seqK d), _, _, rfl, upd_same, .cons (.ty T) (.cons (.ty U) .nil), ty_k g3.j.ex h2 hp, kit2 (kn _ hp) (kn2 _ hp), k _ _ G2 _ q3 (g2.trans g3) (.bl _)⟩
  cases h2 with
  | @obj a dx c' vs fs h3 h4 h5 =>
    obtain ⟨hm, q3⟩ := q2
    have oc := ho _ hm
    exact .inl ⟨a, _, dx, _, t, _, _, false, rfl, obj_slt (K := X.K) (B := B) g3.j.ex h3 h4, oc.c, oc.si, upd_same, .cons (.ty T) (.cons (.ty U) .nil), kitO2 (oc.kit _ hT) (oc.kit _ hU), k _ _ G2 _ q3 (g2.trans g3) (.bl _)⟩
  | _ => exact pure_ q2
section
variable {T U : String} {c : Nat} {L : List Nat} {Q : D → Prop} {r : DE} {δ : DS} {fs xs : List D} {kvs : List (D × D)} {b : Bool} {i : Int} {x : Str}
theorem z_isi2A : dIsi2A T U L r δ Q = r δ fun d => isi2A T U L d Q := propext Iff.rfl
theorem z_isi2Ao : isi2A T U L (.obj c fs) Q = (c ∈ L ∧ Q (.bl false)) := propext Iff.rfl
theorem z_isi2An : isi2A T U L .non Q = Q (.bl (isi2 T U .non)) := propext ⟨fun h => h.2, fun h => ⟨rfl, h⟩⟩
theorem z_isi2Ab : isi2A T U L (.bl b) Q = Q (.bl (isi2 T U (.bl b))) := propext ⟨fun h => h.2, fun h => ⟨rfl, h⟩⟩
theorem z_isi2Ai : isi2A T U L (.int i) Q = Q (.bl (isi2 T U (.int i))) := propext ⟨fun h => h.2, fun h => ⟨rfl, h⟩⟩
theorem z_isi2As : isi2A T U L (.str x) Q = Q (.bl (isi2 T U (.str x))) := propext ⟨fun h => h.2, fun h => ⟨rfl, h⟩⟩
theorem z_isi2Al : isi2A T U L (.lst xs) Q = Q (.bl (isi2 T U (.lst xs))) := propext ⟨fun h => h.2, fun h => ⟨rfl, h⟩⟩
theorem z_isi2At : isi2A T U L (.tup xs) Q = Q (.bl (isi2 T U (.tup xs))) := propext ⟨fun h => h.2, fun h => ⟨rfl, h⟩⟩
theorem z_isi2Ak : isi2A T U L (.ktup xs) Q = Q (.bl (isi2 T U (.ktup xs))) := propext ⟨fun h => h.2, fun h => ⟨rfl, h⟩⟩
theorem z_isi2Ad : isi2A T U L (.dic kvs) Q = Q (.bl (isi2 T U (.dic kvs))) := propext ⟨fun h => h.2, fun h => ⟨rfl, h⟩⟩
theorem isi2A_pure {d : D} (h : pureD (seqK d) = true) (q : Q (.bl (isi2 T U d))) : isi2A T U L d Q := by
  cases d with
  | obj _ _ => cases h
  | _ => exact ⟨h, q⟩
end
end DL
namespace DL
open PySem PySem.Spec PyProof.Rows L2 Evl LamX
def dTryR (okc : Nat → Bool) (hd : Nat → Str → D → Option D) (r : XW → DE) : DTS := fun W δ => r (fun c f y => okc c = true ∧ ∃ o, hd c f y = some o ∧ W.rt o) (shOnly δ) W.rt
theorem psd_tryR {X : Cx} {B : Bx} {E : Expr} {e en : Str} {CS : Addr} {i : Nat} {b₀ : Stmt} {suite : List Stmt} {okc : Nat → Bool} {hd : Nat → Str → D → Option D} {r : XW → DE} {p5 p6 p7 p8 : Pos}
    (hs : X.stack = X.env :: X.outer) (hf : X.env.frame = some X.env.locals) (hN : X.N.Nodup) (hi : X.N[i]? = some en) (hln : X.env.kindOf en = some .local) (hge : Gl X e) (hme : X.mg e = some (.ref CS))
    (hx : ∀ c, okc c = true → PySem.W.exmOne X.K (.ref (B.ct c)) (.ref CS) = some true)
    (hsu : ∀ (u : Option (Hp × Hp)) (c : Nat) (f : Str) (y : D) (a dd : Addr) (oe : Obj) (pn : List (Addr × Obj)), okc c = true → Zc (.ref (B.ct c)) (some dd) oe → (∃ vs, oe.data = .fields vs) → PSs (X.suite a ((a, oe) :: pn)) (b₀ :: suite) (tVS X.K (B.at u) a dd f y i (hd c f y)))
    (hb : ∀ (pn : List (Addr × Obj)) (xe : Value → Shared → Prop) (u : Option (Hp × Hp)) (Wx : XW), TkX (X.tr pn xe) (B.at u) Wx → PD (X.tr pn xe) (B.at u) E (r Wx)) (hde : (e == ("__debug__" : Str)) = false := by decide) :
    PSD X B (.Try [.Return (some E) p5] [.ExceptHandler (some (.Name e p6)) (some en) (b₀ :: suite) p7] [] [] p8) (dTryR okc hd r) := by
  refine ⟨fun pins s σ H De0 I h => ?_⟩
  obtain ⟨G0, H0, G, δ, W, g0, st, hr, en_⟩ := h
  refine (ps_try_as (X := X) (c := .ref CS) (i := i) (n := en) (Wout := fun _ _ _ _ => False)
      (tb := fun W' De σ H => ∃ (u : Option (Hp × Hp)) (Wx : XW), (∀ cls d σ2 H2, XL X.K (B.at u) Wx cls d H2 → W' cls d σ2 H2) ∧ liftE X.K (B.at u) (r Wx) σ H De.rt)
      (ts := fun a cls d De σ H => (i < σ.length → σ[i]? = some (some (.ref a))) ∧ ∃ (u : Option (Hp × Hp)) (G : Hp) (c : Nat) (f : Str) (y : D) (v : V) (dd : Addr) (o : D), okc c = true ∧ hd c f y = some o ∧ Jn X.K (B.at u) G H ∧ cls = .ref ((B.at u).ct c) ∧ d = some dd ∧ H dd = some (.xd [(f, v)]) ∧ Dat X.K (B.at u) G v y ∧
        ∀ w G2 H2, Gr X.K (B.at u) G H G2 H2 → Dat X.K (B.at u) G2 w o → De.rt w H2)
      hs hf hN hi hln ⟨hge, hde, .inl hme⟩ L2.takes0 (fun W' pn xe tk _ => ?_) (fun a oe cls d pn hz hf => ?_)).run pins s σ H De0 I ?_
  · refine ⟨fun pins s' σ H' D I h' => ?_⟩
    obtain ⟨u, Wx, hW, h1⟩ := h'
    exact (pss_one (ps_ret (pos := p5) (hb pn xe u Wx ⟨W', tk, fun cls d σ' H' z => hW cls d σ' H' z⟩))).run pins s' σ H' D I h1
  · refine ⟨fun pins s' σ H' D I h' => ?_⟩
    obtain ⟨hl, u, G, c, f, y, v, dd, o, hok, ho, j, rfl, rfl, hdd, hy, k⟩ := h'
    have hil : i < σ.length := by
      rw [I.len]
      exact (List.getElem?_eq_some_iff.mp hi).1
    exact (hsu u c f y a dd oe pn hok hz hf).run pins s' σ H' D I ⟨G, v, o, ho, j, hl hil, hdd, hy, k⟩
  · have j := g0.j
    have back : ∀ {G2 H2 : Hp}, Jn X.K (B.at (some (G, H))) G2 H2 → Gr X.K B G H G2 H2 := fun jj => Gr.weigh j jj
    refine ⟨some (G, H), _, fun cls d σ' H' xl => ?_, H, G, shOnly δ, W.rt, j.anchor, st.plain _, hr, fun d v G2 H2 q2 g2 h2 => en_.rt d v G2 H2 q2 (g0.trans (back g2.j)) (back g2.j).ex h2.ofAt⟩
    obtain ⟨G', c, fl, y, v, dd, hw, jx, rfl, rfl, hdd, hy⟩ := xl
    obtain ⟨hok, o, ho, hS⟩ := hw
    refine ⟨true, hx c hok, fun _ a na => ?_, fun z => by cases z⟩
    refine ⟨fun hl => List.getElem?_set_self (by rw [List.length_set] at hl; exact hl), some (G, H), G', c, fl, y, v, dd, o, hok, ho, jx, rfl, rfl, hdd, hy, fun w G2 H2 g h => ?_⟩
    exact en_.rt o w G2 H2 hS (g0.trans (back g.j)) (back g.j).ex h.ofAt
section
variable {okc : Nat → Bool} {hd : Nat → Str → D → Option D} {r : XW → DE} {W : DEnds} {δ : DS}
theorem z_tryR : dTryR okc hd r W δ = r (fun c f y => okc c = true ∧ ∃ o, hd c f y = some o ∧ W.rt o) (shOnly δ) W.rt := propext Iff.rfl
end
section
variable {P : Program} {w : World} {K : PySem.W.Frag} {mg : Str → Option Value} {base : Heap}
theorem fn_initDX {x qual : Str} {st : Stmt} {f a : Addr} {fd : FuncData} {N ps : List Str} {k : Nat} {B : Bx} {C : Nat} {Wx : XW} {S : FI} {t : DTS} (F : FunD K x qual (defArgs st) (defBody st) (defScope st) [.ref a] [] f fd) (Sc : FnScope N ps (defScope st)) (len : ∀ ds Q, S ds Q → ds.length + 1 = ps.length) (hN : 1 ≤ N.length)
    (hbody : ∀ (cdv : Value) (A : Around) (outer : List Env) (s : Shared) (H : Hp) (E : XK), Room k (A.deeper (envOfC qual (defScope st) s.heap.objs.size f cdv)) → TkX (cxOf (L2.CX P w) P w K mg base N qual (defScope st) f cdv A outer s H E) B Wx →
      PSsD (cxOf (L2.CX P w) P w K mg base N qual (defScope st) f cdv A outer s H E) B (defBody st) t)
    (vc : ∀ x ds Q, S ds Q → t (endI x C Q) (startI N.length x C ds)) : FnOk P w K mg base (L2.CX P w) (k + 1) f fd ps (spIX K B C Wx S) := by
  refine F.ok Sc (fun vs H Q E h => ?_) (fun cdv A outer s H vs Q E hr h => ⟨_, hbody cdv A outer s H E hr ⟨_, takes_of (E := E) rfl rfl rfl rfl, fun cls d σ H' z => h.2 cls d H' z⟩, init_lift hN vc h.1⟩)
  obtain ⟨⟨x, dx, ws, G, ds, R, rfl, _, _, _, _, _, _, _, _, hd, hs, _⟩, _⟩ := h
  rw [List.length_cons, hd.len]
  exact len ds R hs
end
end DL
namespace DL
open PySem PySem.Spec PyProof.Rows L2 Evl
def isBD (b : Bool) : D → Bool
  | .bl a => a == b
  | _ => false
def oIsB (neg : Bool) : O2 := fun x y Q => match y with
  | .bl b => Q (.bl (cond neg (!isBD b x) (isBD b x)))
  | _ => False
theorem dat_isB {K : PySem.W.Frag} {B : Bx} {G : Hp} {v : V} {d : D} {u : Value} {b : Bool} (h : Dat K B G v d) (r : RelV v u) : plainIs u (.bool b) = true ∧ (u == Value.bool b) = isBD b d := by
  cases h with
  | non => cases (show u = Value.none from r); exact ⟨rfl, rfl⟩
  | bl a => cases (show u = Value.bool a from r); exact ⟨rfl, by cases a <;> cases b <;> rfl⟩
  | int i => obtain ⟨t, rfl⟩ := (show ∃ t, u = Value.int i t from r); exact ⟨rfl, rfl⟩
  | str x => obtain ⟨t, rfl⟩ := (show ∃ t, u = Value.str x t from r); exact ⟨rfl, rfl⟩
  | lst _ _ => cases (show u = Value.ref _ from r); exact ⟨rfl, rfl⟩
  | tup _ _ => cases (show u = Value.ref _ from r); exact ⟨rfl, rfl⟩
  | ktup _ _ => cases (show u = Value.ref _ from r); exact ⟨rfl, rfl⟩
  | dK _ _ => cases (show u = Value.ref _ from r); exact ⟨rfl, rfl⟩
  | dT _ _ => cases (show u = Value.ref _ from r); exact ⟨rfl, rfl⟩
  | bag => cases (show u = Value.ref _ from r); exact ⟨rfl, rfl⟩
  | obj _ _ _ => cases (show u = Value.ref _ from r); exact ⟨rfl, rfl⟩
theorem op_notIsB {X : Cx} {B : Bx} : OpR X (compareOp .IsNot) (rLift X.K B (oIsB true)) := by
  intro pins s σ H x y v u P I rx ry q
  obtain ⟨G, dx, dy, Q, j, hx, hy, hq, k⟩ := q
  cases hy with
  | bl b =>
    cases (show u = Value.bool b from ry)
    obtain ⟨p, e⟩ := dat_isB (b := b) hx rx
    refine wpAny_isNot_plain p ?_
    rw [e]
    exact ⟨.bl (!isBD b dx), H, I, rfl, k _ _ G H hq (Gr.refl j) (.bl _)⟩
  | _ => exact hq.elim
section
variable {b : Bool} {x : D} {Q : D → Prop}
theorem z_isB : oIsB false x (.bl b) Q = Q (.bl (isBD b x)) := propext Iff.rfl
theorem z_nisB : oIsB true x (.bl b) Q = Q (.bl (!isBD b x)) := propext Iff.rfl
end
end DL
namespace DL
open PySem PySem.Spec PyProof.Rows L2 Evl
def oEqE : O2 := fun x y Q => match x, y with
  | .lst xs, .lst [] => Q (.bl xs.isEmpty)
  | _, _ => False
theorem op_eqE {X : Cx} {B : Bx} (hu : X.A.units < cLine) : OpR X (compareOp .Eq) (rLift X.K B oEqE) := by
  intro pins s σ H x y v u P I rx ry q
  obtain ⟨G, dx, dy, Q, j, hx, hy, hq, k⟩ := q
  cases hx with
  | @lst a xs ds h3 h4 =>
    cases hy with
    | @lst b ys es h5 h6 =>
      cases es with
      | cons _ _ => exact hq.elim
      | nil =>
        cases h6
        cases (show v = Value.ref a from rx)
        cases (show u = Value.ref b from ry)
        obtain ⟨its, rv, p, _⟩ := I.list (sq_of (j.ex _ _ h3))
        obtain ⟨its2, rv2, p2, _⟩ := I.list (sq_of (j.ex _ _ h5))
        cases rv2
        have fin : wpAny (model X.prog X.w) X.A (richCompare .Eq (.ref a) (.ref b)) (EP X pins σ P) X.xe s := by
          cases ds with
          | nil =>
            cases h4
            cases rv
            refine PySem.SeqAt.RcAt.lists (e := fun _ => true) p.isList p2.isList rfl hu (fun j h1 _ => absurd h1 (by simp)) X.prog X.w X.xe (fun w s' => EP X pins σ P w s') ?_
            exact ⟨.bl true, H, I, rfl, k _ _ G H hq (Gr.refl j) (.bl _)⟩
          | cons d ds =>
            cases h4
            cases rv
            refine PySem.SeqAt.RcAt.lists_lengths p.isList p2.isList (by simp) hu X.prog X.w X.xe (fun w s' => EP X pins σ P w s') ?_
            exact ⟨.bl false, H, I, rfl, k _ _ G H hq (Gr.refl j) (.bl _)⟩
        exact fin
    | _ => exact hq.elim
  | _ => exact hq.elim
section
variable {x : D} {xs : List D} {Q : D → Prop}
theorem z_eqEn : oEqE (.lst []) (.lst []) Q = Q (.bl true) := propext Iff.rfl
theorem z_eqEc : oEqE (.lst (x :: xs)) (.lst []) Q = Q (.bl false) := propext Iff.rfl
end
end DL
namespace DL
open PySem PySem.Spec PyProof.Rows L2 Evl
section
variable {prog : Program} {w : World} {h0 : Heap}
/-- v is d, and repr shows it -/
structure Sw (prog : Program) (w : World) (h0 : Heap) (v : Value) (d : PyData) : Prop where
  rd : ∃ as, Reads h0 v d as
  sh : ∃ bs, ReadAtMost h0 d.depth bs ∧ ReprK prog w bs h0 d.depth v d.shown
theorem sw_reads {v : Value} {d : PyData} {as : List Addr} (r : Reads h0 v d as) (hs : d.showable = true) (hsm : d.hasDict = true → sysModules ∉ as) (hz : d.shown.length ≤ sizeLine) : Sw prog w h0 v d := ⟨⟨_, r⟩, ReprK.of_reads r hs hsm hz⟩
inductive SwAll (prog : Program) (w : World) (h0 : Heap) : List Value → List PyData → Prop
  | nil : SwAll prog w h0 [] []
  | cons {v : Value} {d : PyData} {vs : List Value} {ds : List PyData} : Sw prog w h0 v d → SwAll prog w h0 vs ds → SwAll prog w h0 (v :: vs) (d :: ds)
theorem sw_all : ∀ {vs : List Value} {ds : List PyData}, SwAll prog w h0 vs ds → (∃ as, ReadsAll h0 vs ds as) ∧ ∃ bs, ReadAtMost h0 (PyData.depthAll ds) bs ∧ ReprAllK prog w bs h0 (PyData.depthAll ds) vs (PyData.shownAll ds)
  | _, _, .nil => ⟨⟨_, .nil⟩, [], (fun _ h => nomatch h), by simp only [PyData.shownAll]; exact .nil⟩
  | _, _, .cons (d := d) (ds := ds) x xs => by
    obtain ⟨⟨as, r⟩, b1, hb1, k1⟩ := x
    obtain ⟨⟨bs, rs⟩, b2, hb2, k2⟩ := sw_all xs
    refine ⟨⟨_, .cons r rs⟩, b1 ++ b2, fun b hm => ?_, ?_⟩
    · simp only [PyData.depthAll]
      rcases List.mem_append.mp hm with hm | hm
      · obtain ⟨d', as', r', hd'⟩ := hb1 b hm
        exact ⟨d', as', r', Nat.le_trans hd' (Nat.le_max_left _ _)⟩
      · obtain ⟨d', as', r', hd'⟩ := hb2 b hm
        exact ⟨d', as', r', Nat.le_trans hd' (Nat.le_max_right _ _)⟩
    · simp only [PyData.depthAll, PyData.shownAll]
      exact .cons ((k1.more fun b hb => List.mem_append_left _ hb).level_le (Nat.le_max_left _ _)) (k2.more_le (fun b hb => List.mem_append_right _ hb) (Nat.le_max_right _ _))
theorem sw_list {a : Addr} {o : Obj} {vs : Array Value} {n : Nat} {ds : List PyData} (h1 : h0.get? a = some o) (h2 : o.cls = .type "list") (h3 : o.data = .seq vs n) (h : SwAll prog w h0 vs.toList ds) : Sw prog w h0 (.ref a) (.list ds) := by
  obtain ⟨⟨as, rs⟩, bs, hb, hk⟩ := sw_all h
  have r : Reads h0 (.ref a) (.list ds) _ := .list h1 h2 h3 rs
  have hna : a ∉ bs := not_mem_of_deeper r (by simp only [PyData.depth]; omega) hb
  refine ⟨⟨_, r⟩, a :: bs, ReadAtMost.cons r (by simp only [PyData.depth]; omega) hb, ?_⟩
  simp only [PyData.depth, PyData.shown]
  obtain ⟨l⟩ := vs
  cases l with
  | nil =>
    cases h
    simp only [PyData.shownAll, listText_nil]
    exact ReprK.listEmpty h1 h2 h3
  | cons x l => exact ReprK.list h1 h2 h3 hna (by simpa using hk.length_eq) (fun i y e => hk.item i y (by simpa using e))
theorem sw_tup {a : Addr} {o : Obj} {vs : Array Value} {n : Nat} {ds : List PyData} (h1 : h0.get? a = some o) (h2 : o.cls = .type "tuple") (h3 : o.data = .seq vs n) (h : SwAll prog w h0 vs.toList ds) : Sw prog w h0 (.ref a) (.tuple ds) := by
  obtain ⟨⟨as, rs⟩, bs, hb, hk⟩ := sw_all h
  have r : Reads h0 (.ref a) (.tuple ds) _ := .tuple h1 h2 h3 rs
  have hna : a ∉ bs := not_mem_of_deeper r (by simp only [PyData.depth]; omega) hb
  refine ⟨⟨_, r⟩, a :: bs, ReadAtMost.cons r (by simp only [PyData.depth]; omega) hb, ?_⟩
  simp only [PyData.depth, PyData.shown]
  exact ReprK.tuple h1 h2 h3 hna hk
theorem shows_list {a : Addr} {o : Obj} {vs : Array Value} {n : Nat} {ds : List PyData} (h1 : h0.get? a = some o) (h2 : o.cls = .type "list") (h3 : o.data = .seq vs n) (h : SwAll prog w h0 vs.toList ds) (hz : (listText (PyData.shownAll ds)).length ≤ sizeLine) : ShowsBy prog w h0 a (.list ds) "list" "list.__repr__" := by
  obtain ⟨⟨as, rs⟩, bs, hb, hk⟩ := sw_all h
  have hna : a ∉ bs := not_mem_of_deeper (.list h1 h2 h3 rs) (by simp only [PyData.depth]; omega) hb
  refine ⟨F.slot_list_repr.toG, F.slot_list_str, F.slot_list_format, fun s hk0 => ⟨o, hk0 _ _ h1, h2⟩, fun A E s Q hg hu hk0 hQ => ?_⟩
  simp only [PyData.depth] at hu
  simp only [PyData.shown] at hQ
  obtain ⟨l⟩ := vs
  cases l with
  | nil =>
    cases h
    simp only [PyData.shownAll, listText_nil] at hQ
    exact call_list_repr_empty ⟨o, hk0 _ _ h1, h2⟩ (hk0 _ _ h1) h3 (hQ s.heap _ _ fun _ _ e => e)
  | cons x l => exact call_list_reprK h1 h2 h3 hna (by simpa using hk.length_eq) (fun i y e => hk.item i y (by simpa using e)) hg (fun b _ => Clear.nil b) hu hk0 hQ hz
theorem shows_tup {a : Addr} {o : Obj} {vs : Array Value} {n : Nat} {ds : List PyData} (h1 : h0.get? a = some o) (h2 : o.cls = .type "tuple") (h3 : o.data = .seq vs n) (h : SwAll prog w h0 vs.toList ds) (hz : (tupleText (PyData.shownAll ds)).length ≤ sizeLine) : ShowsBy prog w h0 a (.tuple ds) "tuple" "tuple.__repr__" := by
  obtain ⟨⟨as, rs⟩, bs, hb, hk⟩ := sw_all h
  have hna : a ∉ bs := not_mem_of_deeper (.tuple h1 h2 h3 rs) (by simp only [PyData.depth]; omega) hb
  refine ⟨F.slot_tuple_repr, F.slot_tuple_str, F.slot_tuple_format, fun s hk0 => ⟨o, hk0 _ _ h1, h2⟩, fun A E s Q hg hu hk0 hQ => ?_⟩
  simp only [PyData.depth] at hu
  simp only [PyData.shown] at hQ
  exact call_tuple_reprK h1 h2 h3 hna hk hg (fun b _ => Clear.nil b) hu hk0 hQ hz
theorem repr_shows {T idr : String} {a : Addr} {d : PyData} {A : Around} {E : Value → Shared → Prop} {s : Shared} {Q : Value → Shared → Prop} (S : ShowsBy prog w h0 a d T idr) (hg : A.guards = some []) (hu : A.units + (d.depth + 1) < cLine) (hk0 : ∀ b o, h0.get? b = some o → s.heap.get? b = some o)
    (hQ : ∀ h' u tk, (∀ b o, s.heap.get? b = some o → h'.get? b = some o) → Q (.str d.shown u) { s with heap := h', toks := tk }) : wpAny (model prog w) A (call (.builtin "repr") [.ref a]) Q E s :=
  call_repr_slot (by omega) (S.typeIs s hk0) S.slotRepr (S.call A.in1 E s _ hg (by show A.units + 1 + d.depth < cLine; omega) hk0 fun h' u tk hk => ⟨_, _, rfl, hQ h' u tk hk⟩)
end
end DL
namespace DL
open PySem PySem.Spec PyProof.Rows L2 Evl
mutual
def rpy : D → PyData
  | .dic ks => kpy ks
  | .lst xs => .list (rpyL xs)
  | .tup xs => .tuple (rpyL xs)
  | .non => .none
  | .bl b => .bool b
  | .int i => .int i
  | .str x => .str x
  | .ktup _ => .none
  | .obj _ _ => .none
  | .bag => .none
def rpyL : List D → List PyData
  | [] => []
  | x :: xs => rpy x :: rpyL xs
end
mutual
def rOk : D → Prop
  | .dic ks => RepK ks
  | .lst xs => rOkL xs
  | .tup xs => rOkL xs
  | .non => True
  | .bl _ => True
  | .int i => D.fine (.int i) = true
  | .str x => D.fine (.str x) = true ∧ D.wt (.str x) ≤ 15000000
  | .ktup _ => False
  | .obj _ _ => False
  | .bag => False
def rOkL : List D → Prop
  | [] => True
  | x :: xs => rOk x ∧ rOkL xs
end
section
variable {X : Cx} {B : Bx} {pins : List (Addr × Obj)} {σ : L2.St} {H G : Hp} {s : Shared}
theorem sw_dic (I : Inv X pins σ H s) (j : Jn X.K B G H) {v : V} {u : Value} {ks : List (D × D)} (hd : Dat X.K B G v (.dic ks)) (ru : RelV v u) (rk : RepK ks) : Sw X.prog X.w s.heap u (kpy ks) := by
  have fin : ∀ {a : Addr}, (a == sysModules) = false → Reads s.heap (.ref a) (kpy ks) [a] → Sw X.prog X.w s.heap (.ref a) (kpy ks) := fun {a} hs r =>
    sw_reads r (by unfold kpy; rw [PyData.showable]; exact kpy_show rk.vp rk.kp) (fun _ m => by rw [List.mem_singleton] at m; subst m; simp at hs) (kpy_len rk)
  cases hd with
  | @dK a od kvs ks h3 h4 =>
    cases ru
    obtain ⟨hs, hgd, hx, es, ep, vs, hdt, hsz, kv, hm⟩ := I.frzK (j.ex _ _ h3)
    have hvl : kvs.length = vs.length := Paired.length kv
    obtain ⟨es2, ep2, ⟨o2, ho2, hx2, hd2⟩, hsz2, hk2⟩ := Heap.DictOf.raw hm.dictOf
    have at_ : ∀ (i : Nat) (k1 : Key) (v1 : V) (en : DictEntry), kvs[i]? = some (k1, v1) → es2[i]? = some en → RelV (kV k1) en.key ∧ RelV v1 en.val := fun i k1 v1 en e1 e2 => by
      obtain ⟨u, e3, ru⟩ := kv_get kv e1
      obtain ⟨hi, e4⟩ := Array.getElem?_eq_some_iff.mp e2
      have := hk2 i hi k1 u e3
      rw [e4] at this
      exact ⟨relV_key this.1, by rw [this.2]; exact ru⟩
    refine fin hs (reads_dict I j.ex (kx := kvs.map fun p => kV p.1) (vx := kvs.map (·.2)) ho2 hx2 hd2 ?_ ?_ (datK_keys h4) (datK_vals h4) rk)
    · refine vals_of_get (by rw [List.length_map, List.length_map, hvl, ← hsz2]; exact (Array.length_toList).symm) fun i a b ha hb => ?_
      rw [List.getElem?_map] at ha hb
      obtain ⟨⟨k1, v1⟩, e1, rfl⟩ := Option.map_eq_some_iff.mp ha
      obtain ⟨en, e2, rfl⟩ := Option.map_eq_some_iff.mp hb
      rw [Array.getElem?_toList] at e2
      exact (at_ i k1 v1 en e1 e2).1
    · refine vals_of_get (by rw [List.length_map, List.length_map, hvl, ← hsz2]; exact (Array.length_toList).symm) fun i a b ha hb => ?_
      rw [List.getElem?_map] at ha hb
      obtain ⟨⟨k1, v1⟩, e1, rfl⟩ := Option.map_eq_some_iff.mp ha
      obtain ⟨en, e2, rfl⟩ := Option.map_eq_some_iff.mp hb
      rw [Array.getElem?_toList] at e2
      exact (at_ i k1 v1 en e1 e2).2
  | @dT a od kvs ks h3 h4 =>
    cases ru
    obtain ⟨hgd, z, hs, xs, pr, o', es, ep, ho, hx, hdt, he, _⟩ := I.hok a _ (j.ex _ _ h3)
    rw [hgd] at ho
    cases ho
    have hxl : kvs.length = xs.length := Paired.length pr
    have hel : es.size = xs.length := size_of_entries he
    have hkeys : es.toList.map (·.key) = (xs.map fun x => x.2.1).map Value.ref := by rw [he, List.map_map, List.map_map]; rfl
    obtain ⟨G2, g2, d2⟩ := Gr.tupKs j (qs := xs.map fun x => x.2.1) (kk := kvs.map (·.1)) (by rw [List.length_map, List.length_map]; exact hxl.symm) fun i q kk e1 e2 => by
      rw [List.getElem?_map] at e1 e2
      obtain ⟨⟨k1, v1⟩, e3, rfl⟩ := Option.map_eq_some_iff.mp e2
      obtain ⟨b, hb, r1, r2, r3⟩ := paired_get pr e3
      rw [hb] at e1
      cases e1
      exact r2
    rw [datT_keys h4] at d2
    refine fin hs (reads_dict I g2.j.ex (kx := (xs.map fun x => x.2.1).map V.ref) (vx := kvs.map (·.2)) hgd hx hdt ?_ ?_ d2 ((datT_vals h4).mono g2.ex) rk)
    · rw [hkeys]
      exact vals_refs _
    · refine vals_of_get (by rw [List.length_map, List.length_map, hxl, ← hel]; exact (Array.length_toList).symm) fun i a b ha hb => ?_
      rw [List.getElem?_map] at ha hb
      obtain ⟨⟨k1, v1⟩, e1, rfl⟩ := Option.map_eq_some_iff.mp ha
      obtain ⟨en, e2, rfl⟩ := Option.map_eq_some_iff.mp hb
      obtain ⟨b, hb2, r1, r2, r3⟩ := paired_get pr e1
      rw [he, List.getElem?_map, hb2] at e2
      cases e2
      exact r3
mutual
theorem sw_dat (I : Inv X pins σ H s) (j : Jn X.K B G H) : ∀ {v : V} {d : D}, Dat X.K B G v d → ∀ {u : Value}, RelV v u → rOk d → Sw X.prog X.w s.heap u (rpy d)
  | _, _, .non, _, r, _ => by cases r; exact sw_reads .none rfl (fun h => nomatch h) (by rw [sizeLine_eq]; decide +kernel)
  | _, _, .bl b, _, r, _ => by cases r; exact sw_reads (.bool b) rfl (fun h => nomatch h) (by rw [sizeLine_eq]; cases b <;> decide +kernel)
  | _, _, .int i, _, r, ok => by
    obtain ⟨t, rfl⟩ := (show ∃ t, _ = Value.int i t from r)
    exact sw_reads (.int i t) (py_show (.int i) (by simpa [rOk] using ok)) (fun h => nomatch h) (Nat.le_trans (py_len (.int i) (by simpa [rOk] using ok)) (by rw [sizeLine_eq]; simp [D.wt]))
  | _, _, .str x, _, r, ok => by
    obtain ⟨t, rfl⟩ := (show ∃ t, _ = Value.str x t from r)
    have ok : D.fine (.str x) = true ∧ D.wt (.str x) ≤ 15000000 := by rw [rOk] at ok; exact ok
    exact sw_reads (.str x t) (py_show (.str x) ok.1) (fun h => nomatch h) (Nat.le_trans (py_len (.str x) ok.1) (by rw [sizeLine_eq]; omega))
  | _, _, .lst h t, _, r, ok => by
    cases r
    obtain ⟨its, rv, p, _⟩ := I.list (sq_of (j.ex _ _ h))
    obtain ⟨o, h1, h2, n, h3⟩ := p.isList
    rw [rpy]
    exact sw_list h1 h2 h3 (sws_dat I j t rv (by rw [rOk] at ok; exact ok))
  | _, _, .tup h t, _, r, ok => by
    cases r
    obtain ⟨its, rv, p, _⟩ := I.tuple (tx j.ex h)
    obtain ⟨o, h1, h2, n, h3⟩ := (show s.heap.IsTuple _ its.toArray from p)
    rw [rpy]
    exact sw_tup h1 h2 h3 (sws_dat I j t rv (by rw [rOk] at ok; exact ok))
  | _, _, .dK h t, _, r, ok => by
    rw [rpy]
    exact sw_dic I j (.dK h t) r (by rw [rOk] at ok; exact ok)
  | _, _, .dT h t, _, r, ok => by
    rw [rpy]
    exact sw_dic I j (.dT h t) r (by rw [rOk] at ok; exact ok)
  | _, _, .ktup _ _, _, _, ok => by rw [rOk] at ok; exact ok.elim
  | _, _, .bag, _, _, ok => by rw [rOk] at ok; exact ok.elim
  | _, _, .obj _ _ _, _, _, ok => by rw [rOk] at ok; exact ok.elim
theorem sws_dat (I : Inv X pins σ H s) (j : Jn X.K B G H) : ∀ {vs : List V} {ds : List D}, Dats X.K B G vs ds → ∀ {us : List Value}, Vals vs us → rOkL ds → SwAll X.prog X.w s.heap us (rpyL ds)
  | _, _, .nil, _, r, _ => by cases r; rw [rpyL]; exact .nil
  | _, _, .cons h t, _, r, ok => by
    cases r with
    | cons r1 r2 =>
      rw [rOkL] at ok
      rw [rpyL]
      exact .cons (sw_dat I j h r1 ok.1) (sws_dat I j t r2 ok.2)
end
end
def cReprN : FD := fun ds Q => match ds with
  | [.lst xs] => (rOkL xs ∧ (PyData.list (rpyL xs)).depth ≤ 66 ∧ (PyData.list (rpyL xs)).shown.length ≤ sizeLine) ∧ Q (.str (PyData.list (rpyL xs)).shown)
  | [.tup xs] => (rOkL xs ∧ (PyData.tuple (rpyL xs)).depth ≤ 66 ∧ (PyData.tuple (rpyL xs)).shown.length ≤ sizeLine) ∧ Q (.str (PyData.tuple (rpyL xs)).shown)
  | ds => cReprA ds Q
theorem call_reprN {X : Cx} {B : Bx} (hg : X.A.guards = some []) (hu : X.A.units + 70 < cLine) : CallR X (.builtin "repr") (cLift X.K B cReprN) := by
  intro pins s σ H vs us P I rv h
  obtain ⟨G, ds, Q, j, hd, hq, k⟩ := h
  have other : cReprA ds Q → wpAny (model X.prog X.w) X.A (call (.builtin "repr") us) (EP X pins σ P) X.xe s := fun q => call_reprA hg hu pins s σ H vs us P I rv ⟨G, ds, Q, j, hd, q, k⟩
  cases hd with
  | nil => exact other hq
  | cons h1 h2 =>
    cases h2 with
    | cons _ _ => cases h1 <;> exact other hq
    | nil =>
      cases h1 with
      | @lst a xs ds h3 h4 =>
        obtain ⟨⟨ok, dep, sz⟩, q⟩ := hq
        obtain ⟨u, rfl, ru⟩ := vals1 rv
        cases (show u = Value.ref a from ru)
        obtain ⟨its, rv2, p, _⟩ := I.list (sq_of (j.ex _ _ h3))
        obtain ⟨o, e1, e2, n, e3⟩ := p.isList
        exact repr_shows (shows_list e1 e2 e3 (sws_dat I j h4 rv2 ok) (by simpa only [PyData.shown] using sz)) hg (by omega) (fun _ _ e => e) fun h' u tk hk => ⟨.str _, H, I.kept hk, ⟨_, rfl⟩, k _ _ G H q (Gr.refl j) (.str _)⟩
      | @tup a xs ds h3 h4 =>
        obtain ⟨⟨ok, dep, sz⟩, q⟩ := hq
        obtain ⟨u, rfl, ru⟩ := vals1 rv
        cases (show u = Value.ref a from ru)
        obtain ⟨its, rv2, p, _⟩ := I.tuple (tx j.ex h3)
        obtain ⟨o, e1, e2, n, e3⟩ := (show s.heap.IsTuple _ its.toArray from p)
        exact repr_shows (shows_tup e1 e2 e3 (sws_dat I j h4 rv2 ok) (by simpa only [PyData.shown] using sz)) hg (by omega) (fun _ _ e => e) fun h' u tk hk => ⟨.str _, H, I.kept hk, ⟨_, rfl⟩, k _ _ G H q (Gr.refl j) (.str _)⟩
      | _ => exact other hq
section
variable {Q : D → Prop} {xs : List D} {ks : List (D × D)} {i : Int} {x : Str} {b : Bool}
theorem z_rpNl : cReprN [.lst xs] Q = ((rOkL xs ∧ (PyData.list (rpyL xs)).depth ≤ 66 ∧ (PyData.list (rpyL xs)).shown.length ≤ sizeLine) ∧ Q (.str (PyData.list (rpyL xs)).shown)) := propext Iff.rfl
theorem z_rpNt : cReprN [.tup xs] Q = ((rOkL xs ∧ (PyData.tuple (rpyL xs)).depth ≤ 66 ∧ (PyData.tuple (rpyL xs)).shown.length ≤ sizeLine) ∧ Q (.str (PyData.tuple (rpyL xs)).shown)) := propext Iff.rfl
theorem z_rpNd : cReprN [.dic ks] Q = cReprA [.dic ks] Q := propext Iff.rfl
theorem z_rpNi : cReprN [.int i] Q = cReprA [.int i] Q := propext Iff.rfl
theorem z_rpNs : cReprN [.str x] Q = cReprA [.str x] Q := propext Iff.rfl
theorem z_rpNb : cReprN [.bl b] Q = cReprA [.bl b] Q := propext Iff.rfl
theorem z_rpNn : cReprN [.non] Q = cReprA [.non] Q := propext Iff.rfl
end
end DL
namespace DL
open PySem PySem.Spec PyProof.Rows L2 Evl
def oAddE : O2 := fun x y Q => match x, y with
  | .tup xs, .tup ys => xs.length + ys.length ≤ sizeLine ∧ Q (.tup (xs ++ ys))
  | x, y => oAdd x y Q
theorem op_addE {X : Cx} {B : Bx} : OpR X (binaryOp .Add) (rLift X.K B oAddE) := by
  intro pins s σ H x y v u P I rx ry q
  obtain ⟨G, dx, dy, Q, j, hx, hy, hq, k⟩ := q
  by_cases e : ∃ ys, dx = .tup [] ∧ dy = .tup ys
  · obtain ⟨ys, rfl, rfl⟩ := e
    cases hx with
    | @tup a xs _ h1 t1 =>
      cases t1
      cases hy with
      | @tup b zs _ h2 t2 =>
        cases (show v = Value.ref a from rx)
        cases (show u = Value.ref b from ry)
        obtain ⟨its, r1, p1, _⟩ := I.tuple (tx j.ex h1)
        obtain ⟨its2, r2, p2, _⟩ := I.tuple (tx j.ex h2)
        cases r1
        exact L2.cat_tup0 p1 p2 ⟨.ref b, H, I, rfl, k _ _ G H hq.2 (Gr.refl j) (.tup h2 t2)⟩
  · refine op_add_d pins s σ H x y v u P I rx ry ⟨G, dx, dy, Q, j, hx, hy, ?_, k⟩
    cases dx with
    | tup xs =>
      cases dy with
      | tup ys => exact ⟨⟨fun z => e ⟨ys, by rw [z], rfl⟩, hq.1⟩, hq.2⟩
      | _ => exact hq
    | _ => exact hq
section
variable {Q : D → Prop} {xs ys : List D} {x y : D} {i j : Int}
theorem z_addEt : oAddE (.tup xs) (.tup ys) Q = (xs.length + ys.length ≤ sizeLine ∧ Q (.tup (xs ++ ys))) := propext Iff.rfl
theorem z_addEl : oAddE (.lst xs) y Q = oAdd (.lst xs) y Q := propext Iff.rfl
theorem z_addEi : oAddE (.int i) y Q = oAdd (.int i) y Q := propext Iff.rfl
end
end DL
namespace DL
open PySem PySem.Spec PyProof.Rows L2 Evl
theorem zHd0 : (type_of% @z_sorted) ∧ (type_of% @z_srtL) ∧ (type_of% @z_srtD) ∧ (type_of% @z_reprD) ∧ (type_of% @z_rpAd) ∧ (type_of% @z_rpAl) ∧ (type_of% @z_rpAt) ∧ (type_of% @z_rpAi) ∧ (type_of% @z_rpAs) ∧ (type_of% @z_rpAb) ∧ (type_of% @z_rpAn) ∧ (type_of% @z_dic0) ∧ (type_of% @z_dic1) ∧ (type_of% @z_dicT1) ∧ (type_of% @z_raise) ∧ (type_of% @z_shOnly) ∧ (type_of% @z_shDs) ∧ (type_of% @z_shDn) ∧ (type_of% @z_isiA) ∧ (type_of% @z_isiAo) ∧ (type_of% @z_isiAn) ∧ (type_of% @z_isiAb) ∧ (type_of% @z_isiAi) ∧ (type_of% @z_isiAs) ∧ (type_of% @z_isiAl) ∧ (type_of% @z_isiAt) ∧ (type_of% @z_isiAd) ∧ (type_of% @z_lenO) ∧ (type_of% @z_seqK) ∧ (type_of% @z_seqKl) ∧ (type_of% @z_seqKt) ∧ (type_of% @z_seqKk) ∧ (type_of% @z_borT) ∧ (type_of% @z_scTN) ∧ (type_of% @z_scTB) ∧ (type_of% @z_scTI) ∧ (type_of% @z_scTS) ∧ (type_of% @z_scTT) ∧ (type_of% @z_inO) ∧ (type_of% @z_ninO) ∧ (type_of% @z_inQ) ∧ (type_of% @z_ninQ) ∧ (type_of% @z_isi2A) ∧ (type_of% @z_isi2Ao) ∧ (type_of% @z_isi2An) ∧ (type_of% @z_isi2Ab) ∧ (type_of% @z_isi2Ai) ∧ (type_of% @z_isi2As) ∧ (type_of% @z_isi2Al) ∧ (type_of% @z_isi2At) ∧ (type_of% @z_isi2Ak) ∧ (type_of% @z_isi2Ad) ∧ (type_of% @z_tryR) ∧ (type_of% @z_isB) ∧ (type_of% @z_nisB) ∧ (type_of% @z_eqEn) ∧ (type_of% @z_eqEc) ∧ (type_of% @z_rpNl) ∧ (type_of% @z_rpNt) ∧ (type_of% @z_rpNd) ∧ (type_of% @z_rpNi) ∧ (type_of% @z_rpNs) ∧ (type_of% @z_rpNb) ∧ (type_of% @z_rpNn) ∧ (type_of% @z_addEt) ∧ (type_of% @z_addEl) ∧ (type_of% @z_addEi) := ⟨@z_sorted, @z_srtL, @z_srtD, @z_reprD, @z_rpAd, @z_rpAl, @z_rpAt, @z_rpAi, @z_rpAs, @z_rpAb, @z_rpAn, @z_dic0, @z_dic1, @z_dicT1, @z_raise, @z_shOnly, @z_shDs, @z_shDn, @z_isiA, @z_isiAo, @z_isiAn, @z_isiAb, @z_isiAi, @z_isiAs, @z_isiAl, @z_isiAt, @z_isiAd, @z_lenO, @z_seqK, @z_seqKl, @z_seqKt, @z_seqKk, @z_borT, @z_scTN, @z_scTB, @z_scTI, @z_scTS, @z_scTT, @z_inO, @z_ninO, @z_inQ, @z_ninQ, @z_isi2A, @z_isi2Ao, @z_isi2An, @z_isi2Ab, @z_isi2Ai, @z_isi2As, @z_isi2Al, @z_isi2At, @z_isi2Ak, @z_isi2Ad, @z_tryR, @z_isB, @z_nisB, @z_eqEn, @z_eqEc, @z_rpNl, @z_rpNt, @z_rpNd, @z_rpNi, @z_rpNs, @z_rpNb, @z_rpNn, @z_addEt, @z_addEl, @z_addEi⟩
theorem zHp0 : (type_of% @z_toDs) := @z_toDs
end DL
namespace My
open PySem PySem.Spec PyProof.Rows L2 Evl DL
def topS (i : Nat) : Stmt := PySem.Challenge.pw_poleribbons_k61_heaps_refused.main.body.getD i (.Pass ⟨0, 0, 0, 0⟩)
abbrev s_is_integer : Stmt := topS 6
theorem sc_is_integer : FnScope ["thing"] ["thing"] (defScope s_is_integer) := ⟨rfl, rfl, rfl, by decide +kernel, rfl, by decide +kernel, by decide +kernel⟩
abbrev s_is_count : Stmt := topS 7
theorem sc_is_count : FnScope ["thing"] ["thing"] (defScope s_is_count) := ⟨rfl, rfl, rfl, by decide +kernel, rfl, by decide +kernel, by decide +kernel⟩
abbrev s_is_piece : Stmt := topS 10
theorem sc_is_piece : FnScope ["thing"] ["thing"] (defScope s_is_piece) := ⟨rfl, rfl, rfl, by decide +kernel, rfl, by decide +kernel, by decide +kernel⟩
abbrev s_Heap___contains__ : Stmt := inClass (topS 18) 4
theorem sc_Heap___contains__ : FnScope ["self", "thing"] ["self", "thing"] (defScope s_Heap___contains__) := ⟨rfl, rfl, rfl, by decide +kernel, rfl, by decide +kernel, by decide +kernel⟩
abbrev s_are_pieces : Stmt := topS 11
theorem sc_are_pieces : FnScope ["thing", "one"] ["thing"] (defScope s_are_pieces) := ⟨rfl, rfl, rfl, by decide +kernel, rfl, by decide +kernel, by decide +kernel⟩
abbrev s_touch : Stmt := topS 12
theorem sc_touch : FnScope ["one", "other"] ["one", "other"] (defScope s_touch) := ⟨rfl, rfl, rfl, by decide +kernel, rfl, by decide +kernel, by decide +kernel⟩
abbrev s_with_levels : Stmt := topS 15
theorem sc_with_levels : FnScope ["pieces", "found", "piece", "level", "known", "other"] ["pieces"] (defScope s_with_levels) := ⟨rfl, rfl, rfl, by decide +kernel, rfl, by decide +kernel, by decide +kernel⟩
abbrev s_place_of_undone : Stmt := topS 13
theorem sc_place_of_undone : FnScope ["kept", "piece", "place"] ["kept", "piece"] (defScope s_place_of_undone) := ⟨rfl, rfl, rfl, by decide +kernel, rfl, by decide +kernel, by decide +kernel⟩
abbrev s_without_undone : Stmt := topS 14
theorem sc_without_undone : FnScope ["pieces", "kept", "piece", "place"] ["pieces"] (defScope s_without_undone) := ⟨rfl, rfl, rfl, by decide +kernel, rfl, by decide +kernel, by decide +kernel⟩
abbrev s_in_order : Stmt := topS 16
theorem sc_in_order : FnScope ["pieces", "level", "piece"] ["pieces"] (defScope s_in_order) := ⟨rfl, rfl, rfl, by decide +kernel, rfl, by decide +kernel, by decide +kernel⟩
abbrev s_Heap___init__ : Stmt := inClass (topS 18) 1
theorem sc_Heap___init__ : FnScope ["self", "pieces"] ["self", "pieces"] (defScope s_Heap___init__) := ⟨rfl, rfl, rfl, by decide +kernel, rfl, by decide +kernel, by decide +kernel⟩
abbrev s_Heap___len__ : Stmt := inClass (topS 18) 3
theorem sc_Heap___len__ : FnScope ["self"] ["self"] (defScope s_Heap___len__) := ⟨rfl, rfl, rfl, by decide +kernel, rfl, by decide +kernel, by decide +kernel⟩
abbrev s_Heap_is_order : Stmt := inClass (topS 18) 9
theorem sc_Heap_is_order : FnScope ["self", "thing"] ["self", "thing"] (defScope s_Heap_is_order) := ⟨rfl, rfl, rfl, by decide +kernel, rfl, by decide +kernel, by decide +kernel⟩
abbrev s_is_side : Stmt := topS 8
theorem sc_is_side : FnScope ["thing"] ["thing"] (defScope s_is_side) := ⟨rfl, rfl, rfl, by decide +kernel, rfl, by decide +kernel, by decide +kernel⟩
abbrev s_Heap_pieces_of : Stmt := inClass (topS 18) 8
theorem sc_Heap_pieces_of : FnScope ["self", "ribbon", "piece"] ["self", "ribbon"] (defScope s_Heap_pieces_of) := ⟨rfl, rfl, rfl, by decide +kernel, rfl, by decide +kernel, by decide +kernel⟩
abbrev s__law_alike : Stmt := topS 22
theorem sc__law_alike : FnScope ["_law_found", "_law_due"] ["_law_found", "_law_due"] (defScope s__law_alike) := ⟨rfl, rfl, rfl, by decide +kernel, rfl, by decide +kernel, by decide +kernel⟩
abbrev s__law_is_piece : Stmt := topS 29
theorem sc__law_is_piece : FnScope ["_law_thing", "_law_numbers", "_law_part"] ["_law_thing"] (defScope s__law_is_piece) := ⟨rfl, rfl, rfl, by decide +kernel, rfl, by decide +kernel, by decide +kernel⟩
abbrev s__law_are_pieces : Stmt := topS 30
theorem sc__law_are_pieces : FnScope ["_law_thing", "_law_one"] ["_law_thing"] (defScope s__law_are_pieces) := ⟨rfl, rfl, rfl, by decide +kernel, rfl, by decide +kernel, by decide +kernel⟩
abbrev s__law_bag : Stmt := topS 20
theorem sc__law_bag : FnScope ["_law_script", "_law_cell"] ["_law_script"] (defScope s__law_bag) := ⟨rfl, rfl, rfl, by decide +kernel, rfl, by decide +kernel, by decide +kernel⟩
abbrev s__law_contrary : Stmt := topS 26
theorem sc__law_contrary : FnScope ["_law_piece_here"] ["_law_piece_here"] (defScope s__law_contrary) := ⟨rfl, rfl, rfl, by decide +kernel, rfl, by decide +kernel, by decide +kernel⟩
abbrev s__law_take : Stmt := topS 21
theorem sc__law_take : FnScope ["_law_bag_here", "_law_many", "_law_cell", "_law_mixed", "_law_value", "_law_begin", "_law_second"] ["_law_bag_here", "_law_many"] (defScope s__law_take) := ⟨rfl, rfl, rfl, by decide +kernel, rfl, by decide +kernel, by decide +kernel⟩
abbrev s__law_pick : Stmt := topS 23
theorem sc__law_pick : FnScope ["_law_bag_here", "_law_things"] ["_law_bag_here", "_law_things"] (defScope s__law_pick) := ⟨rfl, rfl, rfl, by decide +kernel, rfl, by decide +kernel, by decide +kernel⟩
abbrev s__law_piece : Stmt := topS 25
theorem sc__law_piece : FnScope ["_law_bag_here", "_law_n", "_law_m"] ["_law_bag_here", "_law_n", "_law_m"] (defScope s__law_piece) := ⟨rfl, rfl, rfl, by decide +kernel, rfl, by decide +kernel, by decide +kernel⟩
abbrev s__law_drawn_pieces : Stmt := topS 27
theorem sc__law_drawn_pieces : FnScope ["_law_bag_here", "_law_many", "_law_found", "_law_n", "_law_m", "_law_k", "_law_piece_here"] ["_law_bag_here", "_law_many"] (defScope s__law_drawn_pieces) := ⟨rfl, rfl, rfl, by decide +kernel, rfl, by decide +kernel, by decide +kernel⟩
abbrev s__law_heard : Stmt := topS 31
theorem sc__law_heard : FnScope ["_law_thing", "e"] ["_law_thing"] (defScope s__law_heard) := ⟨rfl, rfl, rfl, by decide +kernel, rfl, by decide +kernel, by decide +kernel⟩
abbrev s__law_odd : Stmt := topS 24
theorem sc__law_odd : FnScope ["_law_bag_here", "_law_name", "_law_wide", "_law_plain"] ["_law_bag_here", "_law_name"] (defScope s__law_odd) := ⟨rfl, rfl, rfl, by decide +kernel, rfl, by decide +kernel, by decide +kernel⟩
abbrev s__law_handed : Stmt := topS 28
theorem sc__law_handed : FnScope ["_law_bag_here", "_law_some"] ["_law_bag_here", "_law_some"] (defScope s__law_handed) := ⟨rfl, rfl, rfl, by decide +kernel, rfl, by decide +kernel, by decide +kernel⟩
abbrev s__law_spoilt : Stmt := topS 32
theorem sc__law_spoilt : FnScope ["_law_bag_here", "_law_pieces", "_law_odd_here", "_law_at", "_law_spot", "_law_way", "_law_piece_here", "_law_part", "_law_near"] ["_law_bag_here", "_law_pieces", "_law_odd_here"] (defScope s__law_spoilt) := ⟨rfl, rfl, rfl, by decide +kernel, rfl, by decide +kernel, by decide +kernel⟩
abbrev s_law : Stmt := topS 33
theorem sc_law : FnScope ["_law_script", "_law_bag_here", "_law_turn", "_law_pieces", "_law_odd_here", "_law_heap", "_law_thing", "_law_due", "_law_shown", "_law_again", "_law_none", "_law_strange", "_law_i", "_law_j", "_law_above", "_law_on", "_law_near", "_law_one"] ["_law_script"] (defScope s_law) := ⟨rfl, rfl, rfl, by decide +kernel, rfl, by decide +kernel, by decide +kernel⟩
def c_SIDES : D := cTup [Str.ofString "moon", Str.ofString "sun"]
/-- what the top has left -/
structure Top (K : PySem.W.Frag) (mg : Str → Option Value) (ct : Nat → Addr) where
  f_is_integer : DefAt K mg "is_integer" s_is_integer ["thing"]
  f_is_count : DefAt K mg "is_count" s_is_count ["thing"]
  f_is_piece : DefAt K mg "is_piece" s_is_piece ["thing"]
  i_Heap___contains__ : InAt K "__contains__" "Heap.__contains__" s_Heap___contains__ ["self", "thing"]
  f_are_pieces : DefAt K mg "are_pieces" s_are_pieces ["thing"]
  f_touch : DefAt K mg "touch" s_touch ["one", "other"]
  f_with_levels : DefAt K mg "with_levels" s_with_levels ["pieces"]
  f_place_of_undone : DefAt K mg "place_of_undone" s_place_of_undone ["kept", "piece"]
  f_without_undone : DefAt K mg "without_undone" s_without_undone ["pieces"]
  f_in_order : DefAt K mg "in_order" s_in_order ["pieces"]
  i_Heap___init__ : InAtD K "__init__" "Heap.__init__" s_Heap___init__ ["self", "pieces"]
  i_Heap___len__ : InAt K "__len__" "Heap.__len__" s_Heap___len__ ["self"]
  i_Heap_is_order : InAt K "is_order" "Heap.is_order" s_Heap_is_order ["self", "thing"]
  f_is_side : DefAt K mg "is_side" s_is_side ["thing"]
  i_Heap_pieces_of : InAt K "pieces_of" "Heap.pieces_of" s_Heap_pieces_of ["self", "ribbon"]
  f__law_alike : DefAt K mg "_law_alike" s__law_alike ["_law_found", "_law_due"]
  f__law_is_piece : DefAt K mg "_law_is_piece" s__law_is_piece ["_law_thing"]
  f__law_are_pieces : DefAt K mg "_law_are_pieces" s__law_are_pieces ["_law_thing"]
  f__law_bag : DefAt K mg "_law_bag" s__law_bag ["_law_script"]
  f__law_contrary : DefAt K mg "_law_contrary" s__law_contrary ["_law_piece_here"]
  f__law_take : DefAt K mg "_law_take" s__law_take ["_law_bag_here", "_law_many"]
  f__law_pick : DefAt K mg "_law_pick" s__law_pick ["_law_bag_here", "_law_things"]
  f__law_piece : DefAt K mg "_law_piece" s__law_piece ["_law_bag_here", "_law_n", "_law_m"]
  f__law_drawn_pieces : DefAt K mg "_law_drawn_pieces" s__law_drawn_pieces ["_law_bag_here", "_law_many"]
  f__law_heard : DefAt K mg "_law_heard" s__law_heard ["_law_thing"]
  f__law_odd : DefAt K mg "_law_odd" s__law_odd ["_law_bag_here", "_law_name"]
  f__law_handed : DefAt K mg "_law_handed" s__law_handed ["_law_bag_here", "_law_some"]
  f__law_spoilt : DefAt K mg "_law_spoilt" s__law_spoilt ["_law_bag_here", "_law_pieces", "_law_odd_here"]
  f_law : DefAt K mg "law" s_law ["_law_script"]
  c_Heap : SlX.SCls K (ct 5)
  g_Heap : mg "Heap" = some (.ref (ct 5))
  s_Heap_kept_pieces : SlotAt K (ct 5) "kept_pieces" 0
  ob_Heap : ObjC K (ct 5)
  mk_Heap : Mk K (ct 5) i_Heap___init__.f
  m_Heap___contains__ : Meth K (ct 5) "__contains__" i_Heap___contains__.f
  m_Heap___len__ : Meth K (ct 5) "__len__" i_Heap___len__.f
  m_Heap_is_order : Meth K (ct 5) "is_order" i_Heap_is_order.f
  m_Heap_pieces_of : Meth K (ct 5) "pieces_of" i_Heap_pieces_of.f
  ob_all : ∀ c ∈ ([5] : List Nat), ObjC K (ct c)
  n_abs : mg "abs" = none
  n_all : mg "all" = none
  n_bool : mg "bool" = none
  n_int : mg "int" = none
  n_isinstance : mg "isinstance" = none
  n_len : mg "len" = none
  n_list : mg "list" = none
  n_max : mg "max" = none
  n_range : mg "range" = none
  n_repr : mg "repr" = none
  n_sorted : mg "sorted" = none
  n_str : mg "str" = none
  n_tuple : mg "tuple" = none
  a_SIDES : Addr
  g_SIDES : mg "SIDES" = some (.ref a_SIDES)
  d_SIDES : ∀ B G, Dat K B G (.ref a_SIDES) c_SIDES
structure TopX (P : Program) (w : World) (K : PySem.W.Frag) (mg : Str → Option Value) (base : Heap) (ct : Nat → Addr) (T : Top K mg ct) where
  g_RibbonError : mg "RibbonError" = some (.ref (ct 20))
  e_Wrong : ExcF P w K mg base (ct 21) "Wrong" "place" "place"
  ec_Wrong : ExcC K (ct 21)
  xf_Wrong : XfC K (ct 21)
  exm_Wrong : PySem.W.exmOne K (.ref (ct 21)) (.ref (ct 20)) = some true
  nf_Wrong_place : PySem.W.findIn K (.ref (ct 21)) "place" = some none
  ki_Wrong_Wrong : PySem.W.kitOne K (.ref (ct 21)) (.ref (ct 21)) = some true
def tbs {P : Program} {w : World} {K : PySem.W.Frag} {mg : Str → Option Value} {base : Heap} {ct : Nat → Addr} {T : Top K mg ct} (TX : TopX P w K mg base ct T) : List (Addr × Str) := []
def t_is_integer : DTS := (dRet (dAn (dIsiA "int" [5] (dVar 0)) (dNt (dIsiA "bool" [5] (dVar 0)))))
def S_is_integer : FD := fun ds Q => ds.length = 1 ∧ t_is_integer { nx := fun _ => Q .non, rt := Q } (startD 1 ds)
theorem len_is_integer : ∀ ds Q, S_is_integer ds Q → ds.length = 1 := fun _ _ h => h.1
theorem vc_is_integer : ∀ ds Q, S_is_integer ds Q → t_is_integer { nx := fun _ => Q .non, rt := Q } (startD 1 ds) := fun _ _ h => h.2
theorem ok_is_integer {P : Program} {w : World} {K : PySem.W.Frag} {mg : Str → Option Value} {base : Heap} {B : Bx} (T : Top K mg B.ct) : FnOk P w K mg base CX0 1 T.f_is_integer.f T.f_is_integer.fd ["thing"] (spD K B S_is_integer) := by
  refine fn_d (k := 0) (t := t_is_integer) T.f_is_integer.fn sc_is_integer len_is_integer (fun cdv A outer s H E hr => ?_) vc_is_integer
  refine psd_one ?_
  refine (psd_ret (pd_and (pd_isiA known_int (by decide) T.ob_all (by rfl) T.n_isinstance (by rfl) T.n_int (by decide +kernel) (pd_var 0)) (pd_1 (pd_not (pd_isiA known_bool (by decide) T.ob_all (by rfl) T.n_isinstance (by rfl) T.n_bool (by decide +kernel) (pd_var 0))))))
def t_is_count : DTS := (dRet (dAn (dCall S_is_integer (dCons (dVar 0) dNil)) (dOp oGe (dVar 0) (dC (.int 0)))))
def S_is_count : FD := fun ds Q => ds.length = 1 ∧ t_is_count { nx := fun _ => Q .non, rt := Q } (startD 1 ds)
theorem len_is_count : ∀ ds Q, S_is_count ds Q → ds.length = 1 := fun _ _ h => h.1
theorem vc_is_count : ∀ ds Q, S_is_count ds Q → t_is_count { nx := fun _ => Q .non, rt := Q } (startD 1 ds) := fun _ _ h => h.2
theorem ok_is_count {P : Program} {w : World} {K : PySem.W.Frag} {mg : Str → Option Value} {base : Heap} {B : Bx} (T : Top K mg B.ct) : FnOk P w K mg base CX0 2 T.f_is_count.f T.f_is_count.fd ["thing"] (spD K B S_is_count) := by
  refine fn_d (k := 1) (t := t_is_count) T.f_is_count.fn sc_is_count len_is_count (fun cdv A outer s H E hr => ?_) vc_is_count
  refine psd_one ?_
  refine (psd_ret (pd_and (pd_callD T.f_is_integer (ok_is_integer T) hr (by decide) (by rfl) (pad_cons (pd_var 0) pad_nil)) (pd_1 (pd_cmp op_ge_d (pd_var 0) pd_int (by rfl)))))
def t_is_piece : DTS := (dSeq (dIfS (tOrr (tNt (tBl (dIsiA "tuple" [5] (dVar 0)))) (tOrr (tBl (dOp oNe (dCall cLen (dCons (dVar 0) dNil)) (dC (.int 4)))) (tOrr (tNt (tBl (dCall S_is_count (dCons (dOp oIx (dVar 0) (dC (.int 0))) dNil)))) (tNt (tBl (dCall S_is_count (dCons (dOp oIx (dVar 0) (dC (.int 1))) dNil))))))) (dRet (dC (.bl false))) dNext)
  (dRet (dAn (dIsiA "bool" [5] (dOp oIx (dVar 0) (dC (.int 2)))) (dIsiA "bool" [5] (dOp oIx (dVar 0) (dC (.int 3)))))))
def S_is_piece : FD := fun ds Q => ds.length = 1 ∧ t_is_piece { nx := fun _ => Q .non, rt := Q } (startD 1 ds)
theorem len_is_piece : ∀ ds Q, S_is_piece ds Q → ds.length = 1 := fun _ _ h => h.1
theorem vc_is_piece : ∀ ds Q, S_is_piece ds Q → t_is_piece { nx := fun _ => Q .non, rt := Q } (startD 1 ds) := fun _ _ h => h.2
theorem ok_is_piece {P : Program} {w : World} {K : PySem.W.Frag} {mg : Str → Option Value} {base : Heap} {B : Bx} (T : Top K mg B.ct) : FnOk P w K mg base CX0 3 T.f_is_piece.f T.f_is_piece.fd ["thing"] (spD K B S_is_piece) := by
  refine fn_d (k := 2) (t := t_is_piece) T.f_is_piece.fn sc_is_piece len_is_piece (fun cdv A outer s H E hr => ?_) vc_is_piece
  refine psd_cons ?_ ?_
  · refine psd_if (pwd_or (ptd_not (ptd_val (pd_isiA known_tuple (by decide) T.ob_all (by rfl) T.n_isinstance (by rfl) T.n_tuple (by decide +kernel) (pd_var 0)))) (pwd_or (ptd_cmp (op_ne_d hr.units) (pd_callB call_len_d (by rfl) T.n_len (by decide +kernel) (pad_cons (pd_var 0) pad_nil)) pd_int (by rfl)) (pwd_or (ptd_not (ptd_val (pd_callD T.f_is_count (ok_is_count T) hr (by decide) (by rfl) (pad_cons (pd_ix ix_d (pd_var 0) pd_int) pad_nil)))) (pwd_or1 (ptd_not (ptd_val (pd_callD T.f_is_count (ok_is_count T) hr (by decide) (by rfl) (pad_cons (pd_ix ix_d (pd_var 0) pd_int) pad_nil)))))))).pt ?_ ?_
    · refine psd_one ?_
      refine (psd_ret pd_bl)
    · exact psd_nil
  refine psd_one ?_
  refine (psd_ret (pd_and (pd_isiA known_bool (by decide) T.ob_all (by rfl) T.n_isinstance (by rfl) T.n_bool (by decide +kernel) (pd_ix ix_d (pd_var 0) pd_int)) (pd_1 (pd_isiA known_bool (by decide) T.ob_all (by rfl) T.n_isinstance (by rfl) T.n_bool (by decide +kernel) (pd_ix ix_d (pd_var 0) pd_int)))))
def t_Heap___contains__ : DTS := (dRet (dAn (dCall S_is_piece (dCons (dVar 1) dNil)) (dOp (oIn false) (dVar 1) (dFld 5 0 (dVar 0)))))
def S_Heap___contains__ : FD := fun ds Q => ds.length = 2 ∧ t_Heap___contains__ { nx := fun _ => Q .non, rt := Q } (startD 2 ds)
theorem len_Heap___contains__ : ∀ ds Q, S_Heap___contains__ ds Q → ds.length = 2 := fun _ _ h => h.1
theorem vc_Heap___contains__ : ∀ ds Q, S_Heap___contains__ ds Q → t_Heap___contains__ { nx := fun _ => Q .non, rt := Q } (startD 2 ds) := fun _ _ h => h.2
theorem ok_Heap___contains__ {P : Program} {w : World} {K : PySem.W.Frag} {mg : Str → Option Value} {base : Heap} {B : Bx} (T : Top K mg B.ct) : FnOk P w K mg base CX0 4 T.i_Heap___contains__.f T.i_Heap___contains__.fd ["self", "thing"] (spD K B S_Heap___contains__) := by
  refine fn_d (k := 3) (t := t_Heap___contains__) T.i_Heap___contains__.fn sc_Heap___contains__ len_Heap___contains__ (fun cdv A outer s H E hr => ?_) vc_Heap___contains__
  refine psd_one ?_
  refine (psd_ret (pd_and (pd_callD T.f_is_piece (ok_is_piece T) hr (by decide) (by rfl) (pad_cons (pd_var 1) pad_nil)) (pd_1 (pd_cmp op_in_d (pd_var 1) (pd_fldD T.c_Heap T.s_Heap_kept_pieces (pd_var 0)) (by rfl)))))
theorem r_Heap___contains__ {P : Program} {w : World} {K : PySem.W.Frag} {mg : Str → Option Value} {base : Heap} {B : Bx} (T : Top K mg B.ct) : FnR P w K mg base CX0 4 T.i_Heap___contains__.f (spD K B S_Heap___contains__) := fn_r (ok_Heap___contains__ T) T.i_Heap___contains__.bd
def t_are_pieces : DTS := (dRet (dAn (dIsi2A "list" "tuple" [5] (dVar 0)) (dCall cAll (dCons (dF (fLc (iSeqK (dVar 0)) (gN 1) dYes (dCall S_is_piece (dCons (dVar 1) dNil)) [1])) dNil))))
def S_are_pieces : FD := fun ds Q => ds.length = 1 ∧ t_are_pieces { nx := fun _ => Q .non, rt := Q } (startD 2 ds)
theorem len_are_pieces : ∀ ds Q, S_are_pieces ds Q → ds.length = 1 := fun _ _ h => h.1
theorem vc_are_pieces : ∀ ds Q, S_are_pieces ds Q → t_are_pieces { nx := fun _ => Q .non, rt := Q } (startD 2 ds) := fun _ _ h => h.2
theorem ok_are_pieces {P : Program} {w : World} {K : PySem.W.Frag} {mg : Str → Option Value} {base : Heap} {B : Bx} (T : Top K mg B.ct) : FnOk P w K mg base CX0 4 T.f_are_pieces.f T.f_are_pieces.fd ["thing"] (spD K B S_are_pieces) := by
  refine fn_d (k := 3) (t := t_are_pieces) T.f_are_pieces.fn sc_are_pieces len_are_pieces (fun cdv A outer s H E hr => ?_) vc_are_pieces
  refine psd_one ?_
  refine (psd_ret (pd_and (pd_isi2A known_list known_tuple (by decide) (by decide) T.ob_all (by rfl) T.n_isinstance (by rfl) T.n_list (by decide +kernel) (by rfl) T.n_tuple (by decide +kernel) (pd_var 0)) (pd_1 (pd_callB (call_all_d rfl) (by rfl) T.n_all (by decide +kernel) (pad_cons (pd_f (pf_lc rfl sc_are_pieces.nd (pid_seqK (pd_var 0)) (blkOk_by (own := [("one", 1)]) (by rfl)) (by decide) (fun _ _ _ _ _ => (pgd_name (i := 1) sc_are_pieces.nd rfl (by first | exact .inl rfl | exact .inr rfl))) (fun _ _ _ _ _ => ptsd_nil) (fun _ _ _ _ _ => ?h2))) pad_nil)))))
  case h2 => exact (pd_callD T.f_is_piece (ok_is_piece T) hr (by decide) (by rfl) (pad_cons (pd_var 1) pad_nil))
def t_touch : DTS := (dRet (dOr (dOp oEq (dOp oIx (dVar 0) (dC (.int 0))) (dOp oIx (dVar 1) (dC (.int 0)))) (dOp oEq (dOp oIx (dVar 0) (dC (.int 1))) (dOp oIx (dVar 1) (dC (.int 1))))))
def S_touch : FD := fun ds Q => ds.length = 2 ∧ t_touch { nx := fun _ => Q .non, rt := Q } (startD 2 ds)
theorem len_touch : ∀ ds Q, S_touch ds Q → ds.length = 2 := fun _ _ h => h.1
theorem vc_touch : ∀ ds Q, S_touch ds Q → t_touch { nx := fun _ => Q .non, rt := Q } (startD 2 ds) := fun _ _ h => h.2
theorem ok_touch {P : Program} {w : World} {K : PySem.W.Frag} {mg : Str → Option Value} {base : Heap} {B : Bx} (T : Top K mg B.ct) : FnOk P w K mg base CX0 1 T.f_touch.f T.f_touch.fd ["one", "other"] (spD K B S_touch) := by
  refine fn_d (k := 0) (t := t_touch) T.f_touch.fn sc_touch len_touch (fun cdv A outer s H E hr => ?_) vc_touch
  refine psd_one ?_
  refine (psd_ret (pd_or (pd_cmp (op_eq_d hr.units) (pd_ix ix_d (pd_var 0) pd_int) (pd_ix ix_d (pd_var 1) pd_int) (by rfl)) (pd_1 (pd_cmp (op_eq_d hr.units) (pd_ix ix_d (pd_var 0) pd_int) (pd_ix ix_d (pd_var 1) pd_int) (by rfl)))))
def b_with_levels_1 : DTS := (dSeq (dSet 3 (dCall cMaxL (dCons (dOp oAdd (dF (fLst (dCons (dC (.int 0)) dNil))) (dF (fLc (iSeq (dVar 1)) (gT 2 (gsCons (gN 4) (gsCons (gN 5) gsNil))) (tBl (dCall S_touch (dCons (dVar 5) (dCons (dVar 2) dNil)))) (dOp oAdd (dVar 4) (dC (.int 1))) [4, 5]))) dNil)))
  (dSet 1 (dOp oAdd (dVar 1) (dF (fLst (dCons (dTup (dCons (dVar 3) (dCons (dVar 2) dNil))) dNil))))))
def t_with_levels : DTS := (dSeq (dSet 1 (dF (fLst dNil)))
  (dSeq (dFor (iSeq (dVar 0)) (gN 2) b_with_levels_1)
  (dRet (dF (fSorted (dCons (dVar 1) dNil))))))
def S_with_levels : FD := fun ds Q => ds.length = 1 ∧ t_with_levels { nx := fun _ => Q .non, rt := Q } (startD 6 ds)
theorem len_with_levels : ∀ ds Q, S_with_levels ds Q → ds.length = 1 := fun _ _ h => h.1
theorem vc_with_levels : ∀ ds Q, S_with_levels ds Q → t_with_levels { nx := fun _ => Q .non, rt := Q } (startD 6 ds) := fun _ _ h => h.2
theorem ok_with_levels {P : Program} {w : World} {K : PySem.W.Frag} {mg : Str → Option Value} {base : Heap} {B : Bx} (T : Top K mg B.ct) : FnOk P w K mg base CX0 2 T.f_with_levels.f T.f_with_levels.fd ["pieces"] (spD K B S_with_levels) := by
  refine fn_d (k := 1) (t := t_with_levels) T.f_with_levels.fn sc_with_levels len_with_levels (fun cdv A outer s H E hr => ?_) vc_with_levels
  refine psd_cons ?_ ?_
  · refine (psd_set (i := 1) sc_with_levels.nd rfl (by first | exact .inl rfl | exact .inr rfl) (pd_f (pf_lst pad_nil)))
  refine psd_cons ?_ ?_
  · refine psd_for PassesOwn.never rfl (pid_seq (pd_var 0)) (pgd_name (i := 2) sc_with_levels.nd rfl (by first | exact .inl rfl | exact .inr rfl)) ?_
    refine psd_cons ?_ ?_
    · refine (psd_set (i := 3) sc_with_levels.nd rfl (by first | exact .inl rfl | exact .inr rfl) (pd_callB (call_maxL_d rfl) (by rfl) T.n_max (by decide +kernel) (pad_cons (pd_bin op_add_d (pd_f (pf_lst (pad_cons pd_int pad_nil))) (pd_f (pf_lc rfl sc_with_levels.nd (pid_seq (pd_var 1)) (blkOk_by (own := [("known", 4), ("other", 5)]) (by rfl)) (by decide) (fun _ _ _ _ _ => (pgd_tup rfl (pgsd_cons (pgd_name (i := 4) sc_with_levels.nd rfl (by first | exact .inl rfl | exact .inr rfl)) (pgsd_cons (pgd_name (i := 5) sc_with_levels.nd rfl (by first | exact .inl rfl | exact .inr rfl)) pgsd_nil)))) (fun _ _ _ _ _ => ?h2) (fun _ _ _ _ _ => (pd_bin op_add_d (pd_var 4) pd_int))))) pad_nil)))
      case h2 => exact (ptsd_one (ptd_val (pd_callD T.f_touch (ok_touch T) hr (by decide) (by rfl) (pad_cons (pd_var 5) (pad_cons (pd_var 2) pad_nil)))))
    refine psd_one ?_
    refine (psd_set (i := 1) sc_with_levels.nd rfl (by first | exact .inl rfl | exact .inr rfl) (pd_bin op_add_d (pd_var 1) (pd_f (pf_lst (pad_cons (pd_tup (pad_cons (pd_var 3) (pad_cons (pd_var 2) pad_nil))) pad_nil)))))
  refine psd_one ?_
  refine (psd_ret (pd_f (pf_sorted rfl (room_u70 hr) (by rfl) T.n_sorted (pad_cons (pd_var 1) pad_nil))))
def b_place_of_undone_1 : DTS := (dIfS (tBl (dCall S_touch (dCons (dOp oIx (dVar 0) (dVar 2)) (dCons (dVar 1) dNil)))) (dRet (dIfE (tBl (dOp oEq (dOp oIx (dVar 0) (dVar 2)) (dOp oAdd (dSl (dVar 1) noP (aP (dC (.int 3)))) (dTup (dCons (dNt (dOp oIx (dVar 1) (dC (.int 3)))) dNil))))) (dVar 2) (dC .non))) dNext)
def t_place_of_undone : DTS := (dSeq (dFor (iR3 (dCons (dOp oSub (dCall cLen (dCons (dVar 0) dNil)) (dC (.int 1))) (dCons (dUn oNeg (dC (.int 1))) (dCons (dUn oNeg (dC (.int 1))) dNil)))) (gN 2) b_place_of_undone_1)
  (dRet (dC .non)))
def S_place_of_undone : FD := fun ds Q => ds.length = 2 ∧ t_place_of_undone { nx := fun _ => Q .non, rt := Q } (startD 3 ds)
theorem len_place_of_undone : ∀ ds Q, S_place_of_undone ds Q → ds.length = 2 := fun _ _ h => h.1
theorem vc_place_of_undone : ∀ ds Q, S_place_of_undone ds Q → t_place_of_undone { nx := fun _ => Q .non, rt := Q } (startD 3 ds) := fun _ _ h => h.2
theorem ok_place_of_undone {P : Program} {w : World} {K : PySem.W.Frag} {mg : Str → Option Value} {base : Heap} {B : Bx} (T : Top K mg B.ct) : FnOk P w K mg base CX0 2 T.f_place_of_undone.f T.f_place_of_undone.fd ["kept", "piece"] (spD K B S_place_of_undone) := by
  refine fn_d (k := 1) (t := t_place_of_undone) T.f_place_of_undone.fn sc_place_of_undone len_place_of_undone (fun cdv A outer s H E hr => ?_) vc_place_of_undone
  refine psd_cons ?_ ?_
  · refine psd_for PassesOwn.never rfl (pid_r3 (by rfl) T.n_range ?h2) (pgd_name (i := 2) sc_place_of_undone.nd rfl (by first | exact .inl rfl | exact .inr rfl)) ?_
    case h2 => exact (pad_cons (pd_bin op_sub_d (pd_callB call_len_d (by rfl) T.n_len (by decide +kernel) (pad_cons (pd_var 0) pad_nil)) pd_int) (pad_cons (pd_un un_neg_d pd_int) (pad_cons (pd_un un_neg_d pd_int) pad_nil)))
    refine psd_one ?_
    refine psd_if (ptd_val (pd_callD T.f_touch (ok_touch T) hr (by decide) (by rfl) (pad_cons (pd_ix ix_d (pd_var 0) (pd_var 2)) (pad_cons (pd_var 1) pad_nil)))) ?_ ?_
    · refine psd_one ?_
      refine (psd_ret (pd_ifE (ptd_cmp (op_eq_d hr.units) (pd_ix ix_d (pd_var 0) (pd_var 2)) (pd_bin op_add_d (pd_slice (pd_var 1) pod_none (pod_some pd_int)) (pd_tup (pad_cons (pd_not (pd_ix ix_d (pd_var 1) pd_int)) pad_nil))) (by rfl)) (pd_var 2) pd_non))
    · exact psd_nil
  refine psd_one ?_
  refine (psd_ret pd_non)
def b_without_undone_1 : DTS := (dSeq (dSet 3 (dCall S_place_of_undone (dCons (dVar 1) (dCons (dVar 2) dNil))))
  (dSet 1 (dIfE (tBl (dOp (oIsN false) (dVar 3) (dC .non))) (dOp oAdd (dVar 1) (dF (fLst (dCons (dVar 2) dNil)))) (dOp oAdd (dSl (dVar 1) noP (aP (dVar 3))) (dSl (dVar 1) (aP (dOp oAdd (dVar 3) (dC (.int 1)))) noP)))))
def t_without_undone : DTS := (dSeq (dSet 1 (dF (fLst dNil)))
  (dSeq (dFor (iSeqK (dVar 0)) (gN 2) b_without_undone_1)
  (dRet (dVar 1))))
def S_without_undone : FD := fun ds Q => ds.length = 1 ∧ t_without_undone { nx := fun _ => Q .non, rt := Q } (startD 4 ds)
theorem len_without_undone : ∀ ds Q, S_without_undone ds Q → ds.length = 1 := fun _ _ h => h.1
theorem vc_without_undone : ∀ ds Q, S_without_undone ds Q → t_without_undone { nx := fun _ => Q .non, rt := Q } (startD 4 ds) := fun _ _ h => h.2
theorem ok_without_undone {P : Program} {w : World} {K : PySem.W.Frag} {mg : Str → Option Value} {base : Heap} {B : Bx} (T : Top K mg B.ct) : FnOk P w K mg base CX0 3 T.f_without_undone.f T.f_without_undone.fd ["pieces"] (spD K B S_without_undone) := by
  refine fn_d (k := 2) (t := t_without_undone) T.f_without_undone.fn sc_without_undone len_without_undone (fun cdv A outer s H E hr => ?_) vc_without_undone
  refine psd_cons ?_ ?_
  · refine (psd_set (i := 1) sc_without_undone.nd rfl (by first | exact .inl rfl | exact .inr rfl) (pd_f (pf_lst pad_nil)))
  refine psd_cons ?_ ?_
  · refine psd_for PassesOwn.never rfl (pid_seqK (pd_var 0)) (pgd_name (i := 2) sc_without_undone.nd rfl (by first | exact .inl rfl | exact .inr rfl)) ?_
    refine psd_cons ?_ ?_
    · refine (psd_set (i := 3) sc_without_undone.nd rfl (by first | exact .inl rfl | exact .inr rfl) (pd_callD T.f_place_of_undone (ok_place_of_undone T) hr (by decide) (by rfl) (pad_cons (pd_var 1) (pad_cons (pd_var 2) pad_nil))))
    refine psd_one ?_
    refine (psd_set (i := 1) sc_without_undone.nd rfl (by first | exact .inl rfl | exact .inr rfl) (pd_ifE (ptd_cmp op_isN_d (pd_var 3) pd_non (by rfl)) (pd_bin op_add_d (pd_var 1) (pd_f (pf_lst (pad_cons (pd_var 2) pad_nil)))) (pd_bin op_add_d (pd_slice (pd_var 1) pod_none (pod_some (pd_var 3))) (pd_slice (pd_var 1) (pod_some (pd_bin op_add_d (pd_var 3) pd_int)) pod_none))))
  refine psd_one ?_
  refine (psd_ret (pd_var 1))
def t_in_order : DTS := (dRet (dF (fLc (iSeq (dCall S_with_levels (dCons (dCall S_without_undone (dCons (dVar 0) dNil)) dNil))) (gT 2 (gsCons (gN 1) (gsCons (gN 2) gsNil))) dYes (dVar 2) [1, 2])))
def S_in_order : FD := fun ds Q => ds.length = 1 ∧ t_in_order { nx := fun _ => Q .non, rt := Q } (startD 3 ds)
theorem len_in_order : ∀ ds Q, S_in_order ds Q → ds.length = 1 := fun _ _ h => h.1
theorem vc_in_order : ∀ ds Q, S_in_order ds Q → t_in_order { nx := fun _ => Q .non, rt := Q } (startD 3 ds) := fun _ _ h => h.2
theorem ok_in_order {P : Program} {w : World} {K : PySem.W.Frag} {mg : Str → Option Value} {base : Heap} {B : Bx} (T : Top K mg B.ct) : FnOk P w K mg base CX0 4 T.f_in_order.f T.f_in_order.fd ["pieces"] (spD K B S_in_order) := by
  refine fn_d (k := 3) (t := t_in_order) T.f_in_order.fn sc_in_order len_in_order (fun cdv A outer s H E hr => ?_) vc_in_order
  refine psd_one ?_
  refine (psd_ret (pd_f (pf_lc rfl sc_in_order.nd (pid_seq ?h2) (blkOk_by (own := [("level", 1), ("piece", 2)]) (by rfl)) (by decide) (fun _ _ _ _ _ => (pgd_tup rfl (pgsd_cons (pgd_name (i := 1) sc_in_order.nd rfl (by first | exact .inl rfl | exact .inr rfl)) (pgsd_cons (pgd_name (i := 2) sc_in_order.nd rfl (by first | exact .inl rfl | exact .inr rfl)) pgsd_nil)))) (fun _ _ _ _ _ => ptsd_nil) (fun _ _ _ _ _ => (pd_var 2)))))
  case h2 => exact (pd_callD T.f_with_levels (ok_with_levels T) hr (by decide) (by rfl) (pad_cons (pd_callD T.f_without_undone (ok_without_undone T) hr (by decide) (by rfl) (pad_cons (pd_var 0) pad_nil)) pad_nil))
def t_Heap___init__ : DTS := (dSeq (dIfS (tNt (tBl (dCall S_are_pieces (dCons (dVar 1) dNil)))) dNever dNext)
  (dSelf 0 0 5 (dCall S_in_order (dCons (dVar 1) dNil))))
def S_Heap___init__ : FI := fun ds Q => ds.length + 1 = 2 ∧ ∀ x, t_Heap___init__ (endI x 5 Q) (startI 2 x 5 ds)
theorem len_Heap___init__ : ∀ ds Q, S_Heap___init__ ds Q → ds.length + 1 = 2 := fun _ _ h => h.1
theorem vc_Heap___init__ : ∀ x ds Q, S_Heap___init__ ds Q → t_Heap___init__ (endI x 5 Q) (startI 2 x 5 ds) := fun x _ _ h => h.2 x
theorem ok_Heap___init__ {P : Program} {w : World} {K : PySem.W.Frag} {mg : Str → Option Value} {base : Heap} {B : Bx} (T : Top K mg B.ct) : FnOk P w K mg base CX0 5 T.i_Heap___init__.f T.i_Heap___init__.fd ["self", "pieces"] (spI K B 5 S_Heap___init__) := by
  refine fn_initD (k := 4) (t := t_Heap___init__) T.i_Heap___init__.fn sc_Heap___init__ len_Heap___init__ (by decide) (fun cdv A outer s H E hr => ?_) vc_Heap___init__
  refine psd_cons ?_ ?_
  · refine psd_if (ptd_not (ptd_val (pd_callD T.f_are_pieces (ok_are_pieces T) hr (by decide) (by rfl) (pad_cons (pd_var 1) pad_nil)))) ?_ ?_
    · refine psd_one ?_
      refine psd_never
    · exact psd_nil
  refine psd_one ?_
  refine (psd_selfD T.c_Heap T.s_Heap_kept_pieces (pv 0) (pd_callD T.f_in_order (ok_in_order T) hr (by decide) (by rfl) (pad_cons (pd_var 1) pad_nil)))
theorem r_Heap___init__ {P : Program} {w : World} {K : PySem.W.Frag} {mg : Str → Option Value} {base : Heap} {B : Bx} (T : Top K mg B.ct) : FnR P w K mg base CX0 5 T.i_Heap___init__.f (spI K B 5 S_Heap___init__) := fn_r (ok_Heap___init__ T) T.i_Heap___init__.bd
def t_Heap___len__ : DTS := (dRet (dCall cLen (dCons (dFld 5 0 (dVar 0)) dNil)))
def S_Heap___len__ : FD := fun ds Q => ds.length = 1 ∧ t_Heap___len__ { nx := fun _ => Q .non, rt := Q } (startD 1 ds)
theorem len_Heap___len__ : ∀ ds Q, S_Heap___len__ ds Q → ds.length = 1 := fun _ _ h => h.1
theorem vc_Heap___len__ : ∀ ds Q, S_Heap___len__ ds Q → t_Heap___len__ { nx := fun _ => Q .non, rt := Q } (startD 1 ds) := fun _ _ h => h.2
theorem ok_Heap___len__ {P : Program} {w : World} {K : PySem.W.Frag} {mg : Str → Option Value} {base : Heap} {B : Bx} (T : Top K mg B.ct) : FnOk P w K mg base CX0 1 T.i_Heap___len__.f T.i_Heap___len__.fd ["self"] (spD K B S_Heap___len__) := by
  refine fn_d (k := 0) (t := t_Heap___len__) T.i_Heap___len__.fn sc_Heap___len__ len_Heap___len__ (fun cdv A outer s H E hr => ?_) vc_Heap___len__
  refine psd_one ?_
  refine (psd_ret (pd_callB call_len_d (by rfl) T.n_len (by decide +kernel) (pad_cons (pd_fldD T.c_Heap T.s_Heap_kept_pieces (pd_var 0)) pad_nil)))
theorem r_Heap___len__ {P : Program} {w : World} {K : PySem.W.Frag} {mg : Str → Option Value} {base : Heap} {B : Bx} (T : Top K mg B.ct) : FnR P w K mg base CX0 1 T.i_Heap___len__.f (spD K B S_Heap___len__) := fn_r (ok_Heap___len__ T) T.i_Heap___len__.bd
def t_Heap_is_order : DTS := (dSeq (dIfS (tOrr (tNt (tBl (dIsiA "list" [5] (dVar 1)))) (tOrr (tNt (tBl (dCall S_are_pieces (dCons (dVar 1) dNil)))) (tBl (dOp oNe (dCall cLen (dCons (dVar 1) dNil)) (dCall cLen (dCons (dFld 5 0 (dVar 0)) dNil)))))) (dRet (dC (.bl false))) dNext)
  (dRet (dOp oEq (dCall S_in_order (dCons (dVar 1) dNil)) (dFld 5 0 (dVar 0)))))
def S_Heap_is_order : FD := fun ds Q => ds.length = 2 ∧ t_Heap_is_order { nx := fun _ => Q .non, rt := Q } (startD 2 ds)
theorem len_Heap_is_order : ∀ ds Q, S_Heap_is_order ds Q → ds.length = 2 := fun _ _ h => h.1
theorem vc_Heap_is_order : ∀ ds Q, S_Heap_is_order ds Q → t_Heap_is_order { nx := fun _ => Q .non, rt := Q } (startD 2 ds) := fun _ _ h => h.2
theorem ok_Heap_is_order {P : Program} {w : World} {K : PySem.W.Frag} {mg : Str → Option Value} {base : Heap} {B : Bx} (T : Top K mg B.ct) : FnOk P w K mg base CX0 5 T.i_Heap_is_order.f T.i_Heap_is_order.fd ["self", "thing"] (spD K B S_Heap_is_order) := by
  refine fn_d (k := 4) (t := t_Heap_is_order) T.i_Heap_is_order.fn sc_Heap_is_order len_Heap_is_order (fun cdv A outer s H E hr => ?_) vc_Heap_is_order
  refine psd_cons ?_ ?_
  · refine psd_if (pwd_or (ptd_not (ptd_val (pd_isiA known_list (by decide) T.ob_all (by rfl) T.n_isinstance (by rfl) T.n_list (by decide +kernel) (pd_var 1)))) (pwd_or (ptd_not (ptd_val (pd_callD T.f_are_pieces (ok_are_pieces T) hr (by decide) (by rfl) (pad_cons (pd_var 1) pad_nil)))) (pwd_or1 (ptd_cmp (op_ne_d hr.units) (pd_callB call_len_d (by rfl) T.n_len (by decide +kernel) (pad_cons (pd_var 1) pad_nil)) (pd_callB call_len_d (by rfl) T.n_len (by decide +kernel) (pad_cons (pd_fldD T.c_Heap T.s_Heap_kept_pieces (pd_var 0)) pad_nil)) (by rfl))))).pt ?_ ?_
    · refine psd_one ?_
      refine (psd_ret pd_bl)
    · exact psd_nil
  refine psd_one ?_
  refine (psd_ret (pd_cmp (op_eq_d hr.units) (pd_callD T.f_in_order (ok_in_order T) hr (by decide) (by rfl) (pad_cons (pd_var 1) pad_nil)) (pd_fldD T.c_Heap T.s_Heap_kept_pieces (pd_var 0)) (by rfl)))
theorem r_Heap_is_order {P : Program} {w : World} {K : PySem.W.Frag} {mg : Str → Option Value} {base : Heap} {B : Bx} (T : Top K mg B.ct) : FnR P w K mg base CX0 5 T.i_Heap_is_order.f (spD K B S_Heap_is_order) := fn_r (ok_Heap_is_order T) T.i_Heap_is_order.bd
def t_is_side : DTS := (dRet (dAn (dIsiA "str" [5] (dVar 0)) (dOp (oIn false) (dVar 0) (dC c_SIDES))))
def S_is_side : FD := fun ds Q => ds.length = 1 ∧ t_is_side { nx := fun _ => Q .non, rt := Q } (startD 1 ds)
theorem len_is_side : ∀ ds Q, S_is_side ds Q → ds.length = 1 := fun _ _ h => h.1
theorem vc_is_side : ∀ ds Q, S_is_side ds Q → t_is_side { nx := fun _ => Q .non, rt := Q } (startD 1 ds) := fun _ _ h => h.2
theorem ok_is_side {P : Program} {w : World} {K : PySem.W.Frag} {mg : Str → Option Value} {base : Heap} {B : Bx} (T : Top K mg B.ct) : FnOk P w K mg base CX0 1 T.f_is_side.f T.f_is_side.fd ["thing"] (spD K B S_is_side) := by
  refine fn_d (k := 0) (t := t_is_side) T.f_is_side.fn sc_is_side len_is_side (fun cdv A outer s H E hr => ?_) vc_is_side
  refine psd_one ?_
  refine (psd_ret (pd_and (pd_isiA known_str (by decide) T.ob_all (by rfl) T.n_isinstance (by rfl) T.n_str (by decide +kernel) (pd_var 0)) (pd_1 (pd_cmp op_in_d (pd_var 0) (pd_glob (v := .ref T.a_SIDES) (by rfl) T.g_SIDES rfl (T.d_SIDES B)) (by rfl)))))
def t_Heap_pieces_of : DTS := (dSeq (dIfS (tOrr (tNt (tBl (dIsiA "tuple" [5] (dVar 1)))) (tOrr (tBl (dOp oNe (dCall cLen (dCons (dVar 1) dNil)) (dC (.int 2)))) (tOrr (tNt (tBl (dCall S_is_side (dCons (dOp oIx (dVar 1) (dC (.int 0))) dNil)))) (tNt (tBl (dCall S_is_count (dCons (dOp oIx (dVar 1) (dC (.int 1))) dNil))))))) (dRet (dF (fLst dNil))) dNext)
  (dRet (dF (fLc (iSeq (dFld 5 0 (dVar 0))) (gN 2) (tBl (dOp oEq (dOp oIx (dVar 2) (dCall cInt (dCons (dOp oEq (dOp oIx (dVar 1) (dC (.int 0))) (dC (.str (Str.ofString "moon")))) dNil))) (dOp oIx (dVar 1) (dC (.int 1))))) (dVar 2) [2]))))
def S_Heap_pieces_of : FD := fun ds Q => ds.length = 2 ∧ t_Heap_pieces_of { nx := fun _ => Q .non, rt := Q } (startD 3 ds)
theorem len_Heap_pieces_of : ∀ ds Q, S_Heap_pieces_of ds Q → ds.length = 2 := fun _ _ h => h.1
theorem vc_Heap_pieces_of : ∀ ds Q, S_Heap_pieces_of ds Q → t_Heap_pieces_of { nx := fun _ => Q .non, rt := Q } (startD 3 ds) := fun _ _ h => h.2
theorem ok_Heap_pieces_of {P : Program} {w : World} {K : PySem.W.Frag} {mg : Str → Option Value} {base : Heap} {B : Bx} (T : Top K mg B.ct) : FnOk P w K mg base CX0 3 T.i_Heap_pieces_of.f T.i_Heap_pieces_of.fd ["self", "ribbon"] (spD K B S_Heap_pieces_of) := by
  refine fn_d (k := 2) (t := t_Heap_pieces_of) T.i_Heap_pieces_of.fn sc_Heap_pieces_of len_Heap_pieces_of (fun cdv A outer s H E hr => ?_) vc_Heap_pieces_of
  refine psd_cons ?_ ?_
  · refine psd_if (pwd_or (ptd_not (ptd_val (pd_isiA known_tuple (by decide) T.ob_all (by rfl) T.n_isinstance (by rfl) T.n_tuple (by decide +kernel) (pd_var 1)))) (pwd_or (ptd_cmp (op_ne_d hr.units) (pd_callB call_len_d (by rfl) T.n_len (by decide +kernel) (pad_cons (pd_var 1) pad_nil)) pd_int (by rfl)) (pwd_or (ptd_not (ptd_val (pd_callD T.f_is_side (ok_is_side T) hr (by decide) (by rfl) (pad_cons (pd_ix ix_d (pd_var 1) pd_int) pad_nil)))) (pwd_or1 (ptd_not (ptd_val (pd_callD T.f_is_count (ok_is_count T) hr (by decide) (by rfl) (pad_cons (pd_ix ix_d (pd_var 1) pd_int) pad_nil)))))))).pt ?_ ?_
    · refine psd_one ?_
      refine (psd_ret (pd_f (pf_lst pad_nil)))
    · exact psd_nil
  refine psd_one ?_
  refine (psd_ret (pd_f (pf_lc rfl sc_Heap_pieces_of.nd (pid_seq ?h3) (blkOk_by (own := [("piece", 2)]) (by rfl)) (by decide) (fun _ _ _ _ _ => (pgd_name (i := 2) sc_Heap_pieces_of.nd rfl (by first | exact .inl rfl | exact .inr rfl))) (fun _ _ _ _ _ => ?h4) (fun _ _ _ _ _ => (pd_var 2)))))
  case h3 => exact (pd_fldD T.c_Heap T.s_Heap_kept_pieces (pd_var 0))
  case h4 => exact (ptsd_one (ptd_cmp (op_eq_d hr.units) (pd_ix ix_d (pd_var 2) (pd_callTy call_int_d (by rfl) T.n_int (by decide +kernel) (pad_cons (pd_cmp (op_eq_d hr.units) (pd_ix ix_d (pd_var 1) pd_int) pd_str (by rfl)) pad_nil))) (pd_ix ix_d (pd_var 1) pd_int) (by rfl)))
theorem r_Heap_pieces_of {P : Program} {w : World} {K : PySem.W.Frag} {mg : Str → Option Value} {base : Heap} {B : Bx} (T : Top K mg B.ct) : FnR P w K mg base CX0 3 T.i_Heap_pieces_of.f (spD K B S_Heap_pieces_of) := fn_r (ok_Heap_pieces_of T) T.i_Heap_pieces_of.bd
def t__law_alike : DTS := (dRet (dAn (dOp oEq (dVar 0) (dVar 1)) (dOp oEq (dCall cRepr (dCons (dVar 0) dNil)) (dCall cRepr (dCons (dVar 1) dNil)))))
def S__law_alike : FD := fun ds Q => ds.length = 2 ∧ t__law_alike { nx := fun _ => Q .non, rt := Q } (startD 2 ds)
theorem len__law_alike : ∀ ds Q, S__law_alike ds Q → ds.length = 2 := fun _ _ h => h.1
theorem vc__law_alike : ∀ ds Q, S__law_alike ds Q → t__law_alike { nx := fun _ => Q .non, rt := Q } (startD 2 ds) := fun _ _ h => h.2
theorem ok__law_alike {P : Program} {w : World} {K : PySem.W.Frag} {mg : Str → Option Value} {base : Heap} {B : Bx} (T : Top K mg B.ct) : FnG P w K mg base CX0 1 T.f__law_alike.f T.f__law_alike.fd ["_law_found", "_law_due"] (spD K B S__law_alike) := by
  refine fng_d (k := 0) (t := t__law_alike) T.f__law_alike.fn sc__law_alike len__law_alike (fun cdv A outer s H E hgd hr => ?_) vc__law_alike
  have hgd : (cxOf CX0 P w K mg base ["_law_found", "_law_due"] "_law_alike" (defScope s__law_alike) T.f__law_alike.f cdv A outer s H E).nox.A.guards = some [] := hgd
  have hu70 : (cxOf CX0 P w K mg base ["_law_found", "_law_due"] "_law_alike" (defScope s__law_alike) T.f__law_alike.f cdv A outer s H E).nox.A.units + 70 < cLine := Nat.lt_of_le_of_lt (Nat.add_le_add_left (by decide : 70 ≤ 16 * 0 + 200) _) hr.un
  refine psd_one ?_
  refine (psd_ret (pd_and (pd_cmp (op_eq_d hr.units) (pd_var 0) (pd_var 1) (by rfl)) (pd_1 (pd_cmp (op_eq_d hr.units) (pd_callB (call_repr_d hgd hu70) (by rfl) T.n_repr (by decide +kernel) (pad_cons (pd_var 0) pad_nil)) (pd_callB (call_repr_d hgd hu70) (by rfl) T.n_repr (by decide +kernel) (pad_cons (pd_var 1) pad_nil)) (by rfl)))))
def t__law_is_piece : DTS := (dSeq (dIfS (tOrr (tNt (tBl (dIsiA "tuple" [5] (dVar 0)))) (tBl (dOp oNe (dCall cLen (dCons (dVar 0) dNil)) (dC (.int 4))))) (dRet (dC (.bl false))) dNext)
  (dSeq (dSet 1 (dF (fLc (iSeq (dSl (dVar 0) noP (aP (dC (.int 2))))) (gN 2) (tAn (tBl (dIsiA "int" [5] (dVar 2))) (tAn (tNt (tBl (dIsiA "bool" [5] (dVar 2)))) (tBl (dOp oGe (dVar 2) (dC (.int 0)))))) (dVar 2) [2])))
  (dRet (dAn (dOp oEq (dCall cLen (dCons (dVar 1) dNil)) (dC (.int 2))) (dOp oEqE (dF (fLc (iSeq (dSl (dVar 0) (aP (dC (.int 2))) noP)) (gN 2) (tAn (tBl (dOp (oIsB true) (dVar 2) (dC (.bl true)))) (tBl (dOp (oIsB true) (dVar 2) (dC (.bl false))))) (dVar 2) [2])) (dF (fLst dNil)))))))
def S__law_is_piece : FD := fun ds Q => ds.length = 1 ∧ t__law_is_piece { nx := fun _ => Q .non, rt := Q } (startD 3 ds)
theorem len__law_is_piece : ∀ ds Q, S__law_is_piece ds Q → ds.length = 1 := fun _ _ h => h.1
theorem vc__law_is_piece : ∀ ds Q, S__law_is_piece ds Q → t__law_is_piece { nx := fun _ => Q .non, rt := Q } (startD 3 ds) := fun _ _ h => h.2
theorem ok__law_is_piece {P : Program} {w : World} {K : PySem.W.Frag} {mg : Str → Option Value} {base : Heap} {B : Bx} (T : Top K mg B.ct) : FnOk P w K mg base CX0 1 T.f__law_is_piece.f T.f__law_is_piece.fd ["_law_thing"] (spD K B S__law_is_piece) := by
  refine fn_d (k := 0) (t := t__law_is_piece) T.f__law_is_piece.fn sc__law_is_piece len__law_is_piece (fun cdv A outer s H E hr => ?_) vc__law_is_piece
  refine psd_cons ?_ ?_
  · refine psd_if (pwd_or (ptd_not (ptd_val (pd_isiA known_tuple (by decide) T.ob_all (by rfl) T.n_isinstance (by rfl) T.n_tuple (by decide +kernel) (pd_var 0)))) (pwd_or1 (ptd_cmp (op_ne_d hr.units) (pd_callB call_len_d (by rfl) T.n_len (by decide +kernel) (pad_cons (pd_var 0) pad_nil)) pd_int (by rfl)))).pt ?_ ?_
    · refine psd_one ?_
      refine (psd_ret pd_bl)
    · exact psd_nil
  refine psd_cons ?_ ?_
  · refine (psd_setLc (i := 1) rfl sc__law_is_piece.nd rfl rfl (sw_true rfl rfl rfl (by decide +kernel)) (pid_seq ?h5) (blkOk_by (own := [("_law_part", 2)]) (by rfl)) (by decide) (fun _ _ _ _ _ => (pgd_name (i := 2) sc__law_is_piece.nd rfl (by first | exact .inl rfl | exact .inr rfl))) (fun _ _ _ _ _ => ?h6) (fun _ _ _ _ _ => (pd_var 2)))
    case h5 => exact (pd_slice (pd_var 0) pod_none (pod_some pd_int))
    case h6 => exact (ptsd_one (pwd_and (ptd_val (pd_isiA known_int (by decide) T.ob_all (by rfl) T.n_isinstance (by rfl) T.n_int (by decide +kernel) (pd_var 2))) (pwd_and (ptd_not (ptd_val (pd_isiA known_bool (by decide) T.ob_all (by rfl) T.n_isinstance (by rfl) T.n_bool (by decide +kernel) (pd_var 2)))) (pwd_and1 (ptd_cmp op_ge_d (pd_var 2) pd_int (by rfl))))).pt)
  refine psd_one ?_
  refine (psd_ret (pd_and (pd_cmp (op_eq_d hr.units) (pd_callB call_len_d (by rfl) T.n_len (by decide +kernel) (pad_cons (pd_var 1) pad_nil)) pd_int (by rfl)) (pd_1 (pd_cmp (op_eqE (room_u0 hr)) (pd_f (pf_lc rfl sc__law_is_piece.nd (pid_seq ?h7) (blkOk_by (own := [("_law_part", 2)]) (by rfl)) (by decide) (fun _ _ _ _ _ => (pgd_name (i := 2) sc__law_is_piece.nd rfl (by first | exact .inl rfl | exact .inr rfl))) (fun _ _ _ _ _ => ?h8) (fun _ _ _ _ _ => (pd_var 2)))) (pd_f (pf_lst pad_nil)) (by rfl)))))
  case h7 => exact (pd_slice (pd_var 0) (pod_some pd_int) pod_none)
  case h8 => exact (ptsd_one (pwd_and (ptd_cmp op_notIsB (pd_var 2) pd_bl (by rfl)) (pwd_and1 (ptd_cmp op_notIsB (pd_var 2) pd_bl (by rfl)))).pt)
def t__law_are_pieces : DTS := (dRet (dAn (dIsi2A "list" "tuple" [5] (dVar 0)) (dOp oEqE (dF (fLc (iSeq (dVar 0)) (gN 1) (tNt (tBl (dCall S__law_is_piece (dCons (dVar 1) dNil)))) (dVar 1) [1])) (dF (fLst dNil)))))
def S__law_are_pieces : FD := fun ds Q => ds.length = 1 ∧ t__law_are_pieces { nx := fun _ => Q .non, rt := Q } (startD 2 ds)
theorem len__law_are_pieces : ∀ ds Q, S__law_are_pieces ds Q → ds.length = 1 := fun _ _ h => h.1
theorem vc__law_are_pieces : ∀ ds Q, S__law_are_pieces ds Q → t__law_are_pieces { nx := fun _ => Q .non, rt := Q } (startD 2 ds) := fun _ _ h => h.2
theorem ok__law_are_pieces {P : Program} {w : World} {K : PySem.W.Frag} {mg : Str → Option Value} {base : Heap} {B : Bx} (T : Top K mg B.ct) : FnOk P w K mg base CX0 2 T.f__law_are_pieces.f T.f__law_are_pieces.fd ["_law_thing"] (spD K B S__law_are_pieces) := by
  refine fn_d (k := 1) (t := t__law_are_pieces) T.f__law_are_pieces.fn sc__law_are_pieces len__law_are_pieces (fun cdv A outer s H E hr => ?_) vc__law_are_pieces
  refine psd_one ?_
  refine (psd_ret (pd_and (pd_isi2A known_list known_tuple (by decide) (by decide) T.ob_all (by rfl) T.n_isinstance (by rfl) T.n_list (by decide +kernel) (by rfl) T.n_tuple (by decide +kernel) (pd_var 0)) (pd_1 (pd_cmp (op_eqE (room_u0 hr)) (pd_f (pf_lc rfl sc__law_are_pieces.nd (pid_seq (pd_var 0)) (blkOk_by (own := [("_law_one", 1)]) (by rfl)) (by decide) (fun _ _ _ _ _ => (pgd_name (i := 1) sc__law_are_pieces.nd rfl (by first | exact .inl rfl | exact .inr rfl))) (fun _ _ _ _ _ => ?h2) (fun _ _ _ _ _ => (pd_var 1)))) (pd_f (pf_lst pad_nil)) (by rfl)))))
  case h2 => exact (ptsd_one (ptd_not (ptd_val (pd_callD T.f__law_is_piece (ok__law_is_piece T) hr (by decide) (by rfl) (pad_cons (pd_var 1) pad_nil)))))
def absI (i : Int) : Int := if i < 0 then -i else i
def spBag (K : PySem.W.Frag) : Sp := fun vs H P _ => ∃ (a : Addr) (ns : List Int), vs = [.ref a] ∧ SqL K H a (ns.map V.int) ∧ ns.length ≤ 63 ∧
  ∀ b L H2, H b = none → H L = none → L ≠ b → Ex H H2 → H2 b = some (.lst [.int 0, .int 1234567891, .int 0, .ref L]) → H2 L = some (.lst ((ns.map absI).map V.int)) → P (.ref b) H2
theorem ok__law_bag {P : Program} {w : World} {K : PySem.W.Frag} {mg : Str → Option Value} {base : Heap} {ct : Nat → Addr} (T : Top K mg ct) : FnOk P w K mg base CX0 1 T.f__law_bag.f T.f__law_bag.fd ["_law_script"] (spBag K) := by
  refine T.f__law_bag.fn.ok sc__law_bag (fun vs H Q E h => ?_) (fun cdv A outer s H vs Q E hr h => ?_)
  · obtain ⟨a, ns, rfl, _⟩ := h
    rfl
  obtain ⟨a, ns, rfl, hS, hl, q⟩ := h
  refine ⟨_, pss_one (ps_ret (pe_lst (pa_cons pe_int (pa_cons pe_int (pa_cons pe_int (pa_cons (pe_lc (own := [("_law_cell", 1)]) (g := gName 1) (tt := tYes) rfl sc__law_bag.nd (pi_list (pe_slice sl_list (pv 0) po_none (po_some pe_int)))
    (blkOk_by (by rfl)) (fun _ _ _ _ _ => pg_name (i := 1) sc__law_bag.nd rfl (.inl rfl)) (fun _ _ _ _ _ => pts_nil) (fun _ _ _ _ _ => pe_callB call_abs (by rfl) T.n_abs (by decide +kernel) (pa_cons (pv 1) pa_nil))) pa_nil)))))), ?_⟩
  have hcut : cutV (ns.map V.int) none (some 63) = ns.map V.int := by
    show DL.cut (ns.map V.int) none (some ((63 : Nat) : Int)) = _
    rw [cut_to]
    exact List.take_of_length_le (by rw [List.length_map]; exact hl)
  have ev : EvL (tSl (rSlL K) (tVar 0) tNoPart (tPart (tC (.int 63)))) [some (.ref a), none] H (ns.map V.int) := by
    have := el_sl (K := K) (ev_var (σ := [some (.ref a), none]) (H := H) (i := 0) (v := .ref a) rfl) eo_none (eo_some (ev_c (v := .int 63))) hS
    rw [hcut] at this
    exact this
  have key := el_lcNL (K := K) (j := 1) (vs := [1]) (t := tYes) (te := tCB (fun xs H Q => ∃ i, xs = [.int i] ∧ Q (.int (if i < 0 then -i else i)) H) (tCons (tVar 1) tNil)) (fun _ => true) (fun i => .int (absI (ns.getD i 0))) ev (by rw [List.length_map]; omega) (fun x => rfl)
    (fun i x H1 _ _ H2 _ R r => r H2 (Ex.refl _)) (fun i x H1 _ hx _ H2 _ R r => by
      rw [List.getElem?_map] at hx
      cases e : ns[i]? with
      | none => rw [e] at hx; cases hx
      | some m =>
        rw [e] at hx
        cases hx
        refine ⟨.int m, rfl, m, rfl, ?_⟩
        have e2 : absI (ns.getD i 0) = if m < 0 then -m else m := by
          rw [List.getD_eq_getElem?_getD, e]
          rfl
        rw [← e2]
        exact r H2 (Ex.refl _))
  have e3 : given (ns.map V.int).length (fun _ => true) (fun i => V.int (absI (ns.getD i 0))) = (ns.map absI).map V.int := by
    unfold given
    rw [List.filter_eq_self.mpr (fun _ _ => rfl), List.map_map]
    apply List.ext_getElem?
    intro i
    rw [List.getElem?_map, List.getElem?_map, List.length_map]
    by_cases hi : i < ns.length
    · rw [List.getElem?_range hi, List.getElem?_eq_getElem hi]
      show some (V.int (absI (ns.getD i 0))) = some (V.int (absI ns[i]))
      rw [List.getD_eq_getElem?_getD, List.getElem?_eq_getElem hi]
      rfl
    · rw [List.getElem?_eq_none_iff.mpr (by rw [List.length_range]; omega), List.getElem?_eq_none_iff.mpr (by omega)]
      rfl
  rw [e3] at key
  have fin := key H (Ex.refl H) (fun x H1 => [V.int 0, V.int 1234567891, V.int 0, x].length ≤ sizeLine ∧ ∀ p, H1 p = none → Q (.ref p) (upd H1 p (.lst [V.int 0, V.int 1234567891, V.int 0, x]))) (fun L H1 hL e1 h1 => ⟨by show 4 ≤ sizeLine; decide, fun b hb => q b L _ (fresh_back e1 hb) hL (ne_of_none h1 hb) (e1.trans (Ex.new hb)) upd_same (by rw [upd_ne (ne_of_none h1 hb)]; exact h1)⟩)
  exact fin
def t__law_contrary : DTS := (dRet (dOp oAdd (dSl (dVar 0) noP (aP (dC (.int 3)))) (dTup (dCons (dNt (dOp oIx (dVar 0) (dC (.int 3)))) dNil))))
def S__law_contrary : FD := fun ds Q => ds.length = 1 ∧ t__law_contrary { nx := fun _ => Q .non, rt := Q } (startD 1 ds)
theorem len__law_contrary : ∀ ds Q, S__law_contrary ds Q → ds.length = 1 := fun _ _ h => h.1
theorem vc__law_contrary : ∀ ds Q, S__law_contrary ds Q → t__law_contrary { nx := fun _ => Q .non, rt := Q } (startD 1 ds) := fun _ _ h => h.2
theorem ok__law_contrary {P : Program} {w : World} {K : PySem.W.Frag} {mg : Str → Option Value} {base : Heap} {B : Bx} (T : Top K mg B.ct) : FnOk P w K mg base CX0 1 T.f__law_contrary.f T.f__law_contrary.fd ["_law_piece_here"] (spD K B S__law_contrary) := by
  refine fn_d (k := 0) (t := t__law_contrary) T.f__law_contrary.fn sc__law_contrary len__law_contrary (fun cdv A outer s H E hr => ?_) vc__law_contrary
  refine psd_one ?_
  refine (psd_ret (pd_bin op_add_d (pd_slice (pd_var 0) pod_none (pod_some pd_int)) (pd_tup (pad_cons (pd_not (pd_ix ix_d (pd_var 0) pd_int)) pad_nil))))
theorem bag_set {K : PySem.W.Frag} {B : Bx} {G0 H0 G H : Hp} {a b c : Int} {ns : List Int} (g : Gr K B G0 H0 G H) (hL : SqL K G B.L (ns.map V.int)) (h1 : 0 ≤ a) (h2 : 0 ≤ b) (h3 : b < 2147483647) (h4 : 0 ≤ c) (h5 : ∀ n ∈ ns, 0 ≤ n) (h6 : ns.length ≤ 63) :
    Gr K B G0 H0 G (upd H B.b (.lst [.int a, .int b, .int c, .ref B.L])) := by
  refine ⟨g.ex, fun x o n h => by rw [upd_ne n.1]; exact g.kp x o n h, ⟨fun x o h => ?_, g.j.no, ⟨a, b, c, ns, upd_same, hL, h1, h2, h3, h4, h5, h6⟩, { tb := fun t h => ?_, ex := g.j.xt.ex, keep := fun u h a o s e => by rw [upd_ne s.1]; exact g.j.xt.keep u h a o s e, old := g.j.xt.old }⟩, g.old⟩
  · have nx : x ≠ B.b := fun e => by subst e; rw [g.j.no] at h; cases h
    rw [upd_ne nx]
    exact g.j.ex x o h
  · obtain ⟨⟨ps, z1, z2⟩, z3⟩ := g.j.xt.tb t h
    have nt : t.1 ≠ B.b := fun e => by
      obtain ⟨_, _, _, _, ho, _⟩ := g.j.bag
      rw [e, ho] at z1
      cases z1
    exact ⟨⟨ps, by rw [upd_ne nt]; exact z1, z2⟩, z3⟩
set_option maxHeartbeats 16000000 in
theorem ok__law_take {P : Program} {w : World} {K : PySem.W.Frag} {mg : Str → Option Value} {base : Heap} {B : Bx} (T : Top K mg B.ct) : FnOk P w K mg base CX0 1 T.f__law_take.f T.f__law_take.fd ["_law_bag_here", "_law_many"] (spD K B S__law_take) := by
  refine T.f__law_take.fn.ok sc__law_take (fun vs H Q E h => ?_) (fun cdv A outer s H vs Q E hr h => ?_)
  · obtain ⟨G, ds, R, j, hd, hs, _⟩ := h
    rw [hd.len]
    match ds, hs with
    | [.bag, .int _], _ => rfl
  obtain ⟨G, ds, R, j, hd, hs, kk⟩ := h
  match ds, hs, hd with
  | [.bag, .int n], ⟨⟨n0, n1⟩, hR⟩, .cons .bag (.cons (.int _) .nil) =>
  have kv : ∀ (v : Int) (H2 : Hp), 0 ≤ v → v < n → Gr K B G H G H2 → Q (.int v) H2 := fun v H2 v0 v1 g => kk _ _ G H2 (hR v v0 v1) g (.int _)
  refine ⟨_, pss_cut (ps_if (pt_cmpR op_eq (pe_ix ix_list (pv 0) pe_int (fun _ _ => rfl)) pe_int (nomark _))
      (pss_cons (ps_set (i := 2) sc__law_take.nd rfl (.inl rfl) pe_int)
      (pss_cut (ps_if (pt_cmpR op_lt (pe_ix ix_list (pv 0) pe_int (fun _ _ => rfl)) (pe_callB call_len_seq (by rfl) T.n_len PySem.boot_len (pa_cons (pe_ix ix_list (pv 0) pe_int (fun _ _ => rfl)) pa_nil)) (nomark _))
          (pss_one (ps_set (i := 2) sc__law_take.nd rfl (.inl rfl) (pe_ix ix_list (pe_ix ix_list (pv 0) pe_int (fun _ _ => rfl)) (pe_ix ix_list (pv 0) pe_int (fun _ _ => rfl)) (fun _ _ => rfl)))) pss_nil)
      (pss_cons (ps_augS (pv 0) pe_int get_list pe_int ip_add set_list)
      (pss_cut (ps_if (pt_cmpR op_ge (pv 2) pe_int (nomark _)) (pss_one (ps_asg (pv 2) (pg_sub (pv 0) pe_int set_list))) pss_nil)
      (pss_cons (ps_set (i := 3) sc__law_take.nd rfl (.inl rfl) (pe_op op_add (pe_op op_add (pe_op op_mul (pe_ix ix_list (pv 0) pe_int (fun _ _ => rfl)) pe_int) (pe_op op_mod (pe_callTy call_int1 (by rfl) T.n_int (by decide +kernel) (pa_cons (pv 2) pa_nil)) pe_int)) (pe_op op_mul pe_int (pe_ix ix_list (pv 0) pe_int (fun _ _ => rfl)))))
      (pss_one (ps_asg (pe_op op_mod (pe_callTy call_int1 (by rfl) T.n_int (by decide +kernel) (pa_cons (pv 3) pa_nil)) pe_int) (pg_sub (pv 0) pe_int set_list)))))))) pss_nil)
    (pss_cons (ps_if (pt_cmpR op_gt (pe_ix ix_list (pv 0) pe_int (fun _ _ => rfl)) pe_int (nomark _))
        (pss_cons (ps_set (i := 4) sc__law_take.nd rfl (.inl rfl) (pe_op op_mod (pe_callTy call_int1 (by rfl) T.n_int (by decide +kernel) (pa_cons (pe_ix ix_list (pv 0) pe_int (fun _ _ => rfl)) pa_nil)) (pv 1)))
        (pss_cons (ps_asg (pe_op op_fdivW (pe_ix ix_list (pv 0) pe_int (fun _ _ => rfl)) (pv 1)) (pg_sub (pv 0) pe_int set_list))
        (pss_one (ps_ret (pv 4))))) pss_nil)
    (pss_cons (ps_set (i := 5) sc__law_take.nd rfl (.inl rfl) (pe_op op_mod (pe_callTy call_int1 (by rfl) T.n_int (by decide +kernel) (pa_cons (pe_op op_mul (pe_op op_add (pe_ix ix_list (pv 0) pe_int (fun _ _ => rfl)) pe_int) pe_int) pa_nil)) pe_int))
    (pss_cons (ps_set (i := 6) sc__law_take.nd rfl (.inl rfl) (pe_op op_mod (pe_callTy call_int1 (by rfl) T.n_int (by decide +kernel) (pa_cons (pe_op op_mul (pe_op op_mod (pe_callTy call_int1 (by rfl) T.n_int (by decide +kernel) (pa_cons (pe_op op_mul (pv 5) (pv 5)) pa_nil)) pe_int) pe_int) pa_nil)) pe_int))
    (pss_cons (ps_if (pt_cmpR op_gt (pv 1) pe_int (nomark _)) (pss_one (ps_ret (pe_op op_mod (pe_callTy call_int1 (by rfl) T.n_int (by decide +kernel) (pa_cons (pe_op op_add (pe_op op_mul (pv 6) pe_int) (pv 5)) pa_nil)) (pv 1)))) pss_nil)
    (pss_one (ps_ret (pe_op op_mod (pe_callTy call_int1 (by rfl) T.n_int (by decide +kernel) (pa_cons (pe_op op_fdiv (pv 6) pe_int) pa_nil)) (pv 1)))))))), ?_⟩
  refine ⟨fun σ H' => ∃ y2 y3, σ = [some (.ref B.b), some (.int n), y2, y3, none, none, none] ∧ Gr K B G H G H', ?_, fun σ H' hm => ?_⟩
  · obtain ⟨a, b, c, ns, hb, hL, p1, p2, p3, p4, p5, p6⟩ := j.bag
    have sB : SqL K H B.b [.int a, .int b, .int c, .ref B.L] := SqL.of hb
    refine ⟨.ref B.b, rfl, B.b, _, 0, .int a, rfl, rfl, sB, atI_nat (j := 0) rfl, rfl, _, rfl, ite2 (fun _ => ?_) (fun _ => ⟨none, none, rfl, Gr.refl j⟩)⟩
    have hLH : SqL K H B.L (ns.map V.int) := ex_l j.ex hL
    refine ⟨fun σ H' => ∃ cell : Int, 0 ≤ cell ∧ σ = [some (.ref B.b), some (.int n), some (.int cell), none, none, none, none] ∧ H = H', ?_, fun σ H' hm => ?_⟩
    · refine ⟨.ref B.b, rfl, B.b, _, 2, .int c, rfl, rfl, sB, atI_nat (j := 2) rfl, .ref B.b, rfl, B.b, _, 3, .ref B.L, rfl, rfl, sB, atI_nat (j := 3) rfl, B.L, _, rfl, .inl hLH, c, _, rfl, rfl, _, rfl, ite2 (fun e => ?_) (fun _ => ⟨0, Int.le_refl 0, rfl, rfl⟩)⟩
      have hc : c < (ns.length : Int) := by
        have := of_decide_eq_true e
        rw [List.length_map] at this
        exact this
      have hi : c.toNat < ns.length := by omega
      have g1 : atI (ns.map V.int) c = some (.int ns[c.toNat]) := atI_q p4 (by rw [List.getElem?_map, List.getElem?_eq_getElem hi]; rfl)
      exact ⟨.ref B.b, rfl, B.b, _, 3, .ref B.L, rfl, rfl, sB, atI_nat (j := 3) rfl, .ref B.b, rfl, B.b, _, 2, .int c, rfl, rfl, sB, atI_nat (j := 2) rfl, B.L, _, c, _, rfl, rfl, hLH, g1, _, p5 _ (List.getElem_mem hi), rfl, rfl⟩
    · obtain ⟨cell, c0, rfl, rfl⟩ := hm
      -- bag[2] += 1
      refine ⟨.ref B.b, rfl, B.b, _, 2, .int c, rfl, rfl, sB, rfl, c, 1, rfl, rfl, B.b, _, 2, 2, rfl, rfl, hb, rfl, ?_⟩
      have g1 : Gr K B G H G (upd H B.b (.lst [.int a, .int b, .int (c + 1), .ref B.L])) := bag_set (Gr.refl j) hL p1 p2 p3 (Int.add_nonneg p4 (by decide)) p5 p6
      -- if cell >= ..: bag[0] = cell
      refine ⟨fun σ H' => ∃ a' : Int, 0 ≤ a' ∧ σ = [some (.ref B.b), some (.int n), some (.int cell), none, none, none, none] ∧ H' B.b = some (.lst [.int a', .int b, .int (c + 1), .ref B.L]) ∧ Gr K B G H G H', ?_, fun σ H' hm => ?_⟩
      · refine ⟨.int cell, rfl, cell, _, rfl, rfl, _, rfl, ite2 (fun _ => ?_) (fun _ => ⟨a, p1, rfl, upd_same, g1⟩)⟩
        refine ⟨.int cell, rfl, .ref B.b, rfl, B.b, _, 0, 0, rfl, rfl, upd_same, rfl, cell, c0, rfl, ?_, ?_⟩
        · rw [upd_same]; rfl
        · exact bag_set g1 hL c0 p2 p3 (Int.add_nonneg p4 (by decide)) p5 p6
      · obtain ⟨a', a0, rfl, hb', g2⟩ := hm
        have sB' : SqL K H' B.b [.int a', .int b, .int (c + 1), .ref B.L] := SqL.of hb'
        refine ⟨.ref B.b, rfl, B.b, _, 1, .int b, rfl, rfl, sB', atI_nat (j := 1) rfl, b, 48271, rfl, rfl, .inr ⟨by decide, by decide⟩, .int cell, rfl, .inl ⟨cell, rfl, cell, 2147483647, rfl, rfl, (by decide : (0 : Int) < 2147483647), _, _, rfl, rfl, ?_⟩⟩
        refine ⟨.ref B.b, rfl, B.b, _, 2, .int (c + 1), rfl, rfl, sB', atI_nat (j := 2) rfl, 7919, c + 1, rfl, rfl, .inl ⟨by decide, by decide⟩, _, _, rfl, rfl, ?_⟩
        refine ⟨_, rfl, .inl ⟨_, rfl, _, 2147483647, rfl, rfl, (by decide : (0 : Int) < 2147483647), .ref B.b, rfl, B.b, _, 1, 1, rfl, rfl, hb', rfl, some (.int cell), _, rfl, ?_⟩⟩
        exact bag_set g2 hL a0 (Int.emod_nonneg _ (by decide)) (Int.emod_lt_of_pos _ (by decide)) (Int.add_nonneg p4 (by decide)) p5 p6
  · obtain ⟨y2, y3, rfl, g⟩ := hm
    obtain ⟨a, b, c, ns, hb, hL, p1, p2, p3, p4, p5, p6⟩ := g.j.bag
    have sB : SqL K H' B.b [.int a, .int b, .int c, .ref B.L] := SqL.of hb
    refine ⟨.ref B.b, rfl, B.b, _, 0, .int a, rfl, rfl, sB, atI_nat (j := 0) rfl, a, 0, rfl, rfl, _, rfl, ite2 (fun _ => ?_) (fun _ => ?_)⟩
    · refine ⟨.ref B.b, rfl, B.b, _, 0, .int a, rfl, rfl, sB, atI_nat (j := 0) rfl, .inl ⟨a, rfl, .int n, rfl, a, n, rfl, rfl, n0, ?_⟩⟩
      refine ⟨.ref B.b, rfl, B.b, _, 0, .int a, rfl, rfl, sB, atI_nat (j := 0) rfl, .int n, rfl, a, n, rfl, rfl, ⟨n0, n1⟩, .ref B.b, rfl, B.b, _, 0, 0, rfl, rfl, hb, rfl, .int (a % n), rfl, ?_⟩
      refine kv _ _ (Int.emod_nonneg _ (by omega)) (Int.emod_lt_of_pos _ n0) ?_
      exact bag_set g hL (Int.ediv_nonneg p1 (by omega)) p2 p3 p4 p5 p6
    · refine ⟨.ref B.b, rfl, B.b, _, 1, .int b, rfl, rfl, sB, atI_nat (j := 1) rfl, b, 1, rfl, rfl, b + 1, 39373, rfl, rfl, .inr ⟨by decide, by decide⟩, .inl ⟨_, rfl, _, 1000000007, rfl, rfl, (by decide : (0 : Int) < 1000000007), ?_⟩⟩
      have q1 : 0 ≤ (b + 1) * 39373 % 1000000007 := Int.emod_nonneg _ (by decide)
      have q2 : (b + 1) * 39373 % 1000000007 < 1000000007 := Int.emod_lt_of_pos _ (by decide)
      have q3 : -(2 ^ 64) < (b + 1) * 39373 % 1000000007 := by omega
      have q4 : (b + 1) * 39373 % 1000000007 < 2 ^ 64 := by omega
      refine ⟨_, rfl, _, rfl, _, _, rfl, rfl, .inl ⟨q3, q4⟩, .inl ⟨_, rfl, _, 998244353, rfl, rfl, (by decide : (0 : Int) < 998244353), _, 30011, rfl, rfl, .inr ⟨by decide, by decide⟩, .inl ⟨_, rfl, _, 998244353, rfl, rfl, (by decide : (0 : Int) < 998244353), ?_⟩⟩⟩
      refine ⟨.int n, rfl, n, 1000000, rfl, rfl, _, rfl, ite2 (fun _ => ?_) (fun _ => ?_)⟩
      · refine ⟨_, rfl, _, 1000000007, rfl, rfl, .inr ⟨by decide, by decide⟩, _, rfl, _, _, rfl, rfl, .inl ⟨_, rfl, .int n, rfl, _, n, rfl, rfl, n0, ?_⟩⟩
        exact kv _ _ (Int.emod_nonneg _ (by omega)) (Int.emod_lt_of_pos _ n0) g
      · refine ⟨_, rfl, _, 7, rfl, rfl, ⟨by decide, by decide⟩, .inl ⟨_, rfl, .int n, rfl, _, n, rfl, rfl, n0, ?_⟩⟩
        exact kv _ _ (Int.emod_nonneg _ (by omega)) (Int.emod_lt_of_pos _ n0) g
def t__law_pick : DTS := (dRet (dOp oIx (dVar 1) (dCall S__law_take (dCons (dVar 0) (dCons (dCall cLen (dCons (dVar 1) dNil)) dNil)))))
def S__law_pick : FD := fun ds Q => ds.length = 2 ∧ t__law_pick { nx := fun _ => Q .non, rt := Q } (startD 2 ds)
theorem len__law_pick : ∀ ds Q, S__law_pick ds Q → ds.length = 2 := fun _ _ h => h.1
theorem vc__law_pick : ∀ ds Q, S__law_pick ds Q → t__law_pick { nx := fun _ => Q .non, rt := Q } (startD 2 ds) := fun _ _ h => h.2
theorem ok__law_pick {P : Program} {w : World} {K : PySem.W.Frag} {mg : Str → Option Value} {base : Heap} {B : Bx} (T : Top K mg B.ct) : FnOk P w K mg base CX0 2 T.f__law_pick.f T.f__law_pick.fd ["_law_bag_here", "_law_things"] (spD K B S__law_pick) := by
  refine fn_d (k := 1) (t := t__law_pick) T.f__law_pick.fn sc__law_pick len__law_pick (fun cdv A outer s H E hr => ?_) vc__law_pick
  refine psd_one ?_
  refine (psd_ret (pd_ix ix_d (pd_var 1) (pd_callD T.f__law_take (ok__law_take T) hr (by decide) (by rfl) (pad_cons (pd_var 0) (pad_cons (pd_callB call_len_d (by rfl) T.n_len (by decide +kernel) (pad_cons (pd_var 1) pad_nil)) pad_nil)))))
def t__law_piece : DTS := (dRet (dTup (dCons (dCall S__law_take (dCons (dVar 0) (dCons (dVar 1) dNil))) (dCons (dCall S__law_take (dCons (dVar 0) (dCons (dVar 2) dNil))) (dCons (dOp oEq (dCall S__law_take (dCons (dVar 0) (dCons (dC (.int 2)) dNil))) (dC (.int 0))) (dCons (dOp oGt (dCall S__law_take (dCons (dVar 0) (dCons (dC (.int 3)) dNil))) (dC (.int 0))) dNil))))))
def S__law_piece : FD := fun ds Q => ds.length = 3 ∧ t__law_piece { nx := fun _ => Q .non, rt := Q } (startD 3 ds)
theorem len__law_piece : ∀ ds Q, S__law_piece ds Q → ds.length = 3 := fun _ _ h => h.1
theorem vc__law_piece : ∀ ds Q, S__law_piece ds Q → t__law_piece { nx := fun _ => Q .non, rt := Q } (startD 3 ds) := fun _ _ h => h.2
theorem ok__law_piece {P : Program} {w : World} {K : PySem.W.Frag} {mg : Str → Option Value} {base : Heap} {B : Bx} (T : Top K mg B.ct) : FnOk P w K mg base CX0 2 T.f__law_piece.f T.f__law_piece.fd ["_law_bag_here", "_law_n", "_law_m"] (spD K B S__law_piece) := by
  refine fn_d (k := 1) (t := t__law_piece) T.f__law_piece.fn sc__law_piece len__law_piece (fun cdv A outer s H E hr => ?_) vc__law_piece
  refine psd_one ?_
  refine (psd_ret (pd_tup (pad_cons (pd_callD T.f__law_take (ok__law_take T) hr (by decide) (by rfl) (pad_cons (pd_var 0) (pad_cons (pd_var 1) pad_nil))) (pad_cons (pd_callD T.f__law_take (ok__law_take T) hr (by decide) (by rfl) (pad_cons (pd_var 0) (pad_cons (pd_var 2) pad_nil))) (pad_cons (pd_cmp (op_eq_d hr.units) (pd_callD T.f__law_take (ok__law_take T) hr (by decide) (by rfl) (pad_cons (pd_var 0) (pad_cons pd_int pad_nil))) pd_int (by rfl)) (pad_cons (pd_cmp op_gt_d (pd_callD T.f__law_take (ok__law_take T) hr (by decide) (by rfl) (pad_cons (pd_var 0) (pad_cons pd_int pad_nil))) pd_int (by rfl)) pad_nil))))))
def b__law_drawn_pieces_1 : DTS := (dSeq (dSet 6 (dCall S__law_piece (dCons (dVar 0) (dCons (dVar 3) (dCons (dVar 4) dNil)))))
  (dSeq (dIfS (tBor 2 (tAn (tBl (dOp oNe (dVar 2) (dF (fLst dNil)))) (tBl (dOp oEq (dCall S__law_take (dCons (dVar 0) (dCons (dC (.int 3)) dNil))) (dC (.int 0)))))) (dSet 6 (dBorT 2 (dCall S__law_contrary (dCons (dCall S__law_pick (dCons (dVar 0) (dCons (dSl (dVar 2) (aP (dUn oNeg (dC (.int 4)))) noP) dNil))) dNil)))) dNext)
  (dAppR (rVar 2) (dVar 6))))
def t__law_drawn_pieces : DTS := (dSeq (dPar3 2 3 4 (oCons (oF (fLst dNil)) (oCons (oD (dOp oAdd (dC (.int 1)) (dCall S__law_take (dCons (dVar 0) (dCons (dC (.int 3)) dNil))))) (oCons (oD (dOp oAdd (dC (.int 1)) (dCall S__law_take (dCons (dVar 0) (dCons (dC (.int 3)) dNil))))) oNil))))
  (dSeq (dFor (iR1 (dCons (dCall S__law_take (dCons (dVar 0) (dCons (dOp oAdd (dVar 1) (dC (.int 1))) dNil))) dNil)) (gN 5) b__law_drawn_pieces_1)
  (dFrz 2 (dRet (dVar 2)))))
def S__law_drawn_pieces : FD := fun ds Q => ds.length = 2 ∧ t__law_drawn_pieces { nx := fun _ => Q .non, rt := Q } (startD 7 ds)
theorem len__law_drawn_pieces : ∀ ds Q, S__law_drawn_pieces ds Q → ds.length = 2 := fun _ _ h => h.1
theorem vc__law_drawn_pieces : ∀ ds Q, S__law_drawn_pieces ds Q → t__law_drawn_pieces { nx := fun _ => Q .non, rt := Q } (startD 7 ds) := fun _ _ h => h.2
theorem ok__law_drawn_pieces {P : Program} {w : World} {K : PySem.W.Frag} {mg : Str → Option Value} {base : Heap} {B : Bx} (T : Top K mg B.ct) : FnOk P w K mg base CX0 3 T.f__law_drawn_pieces.f T.f__law_drawn_pieces.fd ["_law_bag_here", "_law_many"] (spD K B S__law_drawn_pieces) := by
  refine fn_d (k := 2) (t := t__law_drawn_pieces) T.f__law_drawn_pieces.fn sc__law_drawn_pieces len__law_drawn_pieces (fun cdv A outer s H E hr => ?_) vc__law_drawn_pieces
  refine psd_cons ?_ ?_
  · refine (psd_par3 (i := 2) (j := 3) (l := 4) rfl sc__law_drawn_pieces.nd rfl rfl rfl (by decide) (by decide) (by decide) rfl rfl rfl (pao_cons (po_f (pf_lst pad_nil)) (pao_cons (po_d (pd_bin op_add_d pd_int (pd_callD T.f__law_take (ok__law_take T) hr (by decide) (by rfl) (pad_cons (pd_var 0) (pad_cons pd_int pad_nil))))) (pao_cons (po_d (pd_bin op_add_d pd_int (pd_callD T.f__law_take (ok__law_take T) hr (by decide) (by rfl) (pad_cons (pd_var 0) (pad_cons pd_int pad_nil))))) pao_nil))) (by rfl))
  refine psd_cons ?_ ?_
  · refine psd_for PassesOwn.never rfl (pid_r1 (by rfl) T.n_range ?h2) (pgd_name (i := 5) sc__law_drawn_pieces.nd rfl (by first | exact .inl rfl | exact .inr rfl)) ?_
    case h2 => exact (pad_cons (pd_callD T.f__law_take (ok__law_take T) hr (by decide) (by rfl) (pad_cons (pd_var 0) (pad_cons (pd_bin op_add_d (pd_var 1) pd_int) pad_nil))) pad_nil)
    refine psd_cons ?_ ?_
    · refine (psd_set (i := 6) sc__law_drawn_pieces.nd rfl (by first | exact .inl rfl | exact .inr rfl) (pd_callD T.f__law_piece (ok__law_piece T) hr (by decide) (by rfl) (pad_cons (pd_var 0) (pad_cons (pd_var 3) (pad_cons (pd_var 4) pad_nil)))))
    refine psd_cons ?_ ?_
    · refine psd_if (ptd_bor 2 (pwd_and (ptd_cmp (op_ne_d hr.units) (pd_var 2) (pd_f (pf_lst pad_nil)) (by rfl)) (pwd_and1 (ptd_cmp (op_eq_d hr.units) (pd_callD T.f__law_take (ok__law_take T) hr (by decide) (by rfl) (pad_cons (pd_var 0) (pad_cons pd_int pad_nil))) pd_int (by rfl)))).pt) ?_ ?_
      · refine psd_one ?_
        refine (psd_set (i := 6) sc__law_drawn_pieces.nd rfl (by first | exact .inl rfl | exact .inr rfl) (pd_borT 2 (pd_callD T.f__law_contrary (ok__law_contrary T) hr (by decide) (by rfl) (pad_cons (pd_callD T.f__law_pick (ok__law_pick T) hr (by decide) (by rfl) (pad_cons (pd_var 0) (pad_cons (pd_slice (pd_var 2) (pod_some (pd_un un_neg_d pd_int)) pod_none) pad_nil))) pad_nil))))
      · exact psd_nil
    refine psd_one ?_
    refine (psd_appR (pr_var (pv 2)) (pd_var 6))
  refine psds_frz 2 ?_
  refine psd_one ?_
  refine (psd_ret (pd_var 2))
abbrev okc__law_heard : Nat → Bool := fun c => c == 21
def hd__law_heard : Nat → Str → D → Option D := fun c f y => match c with | 21 => (if true = true then (if f = "place" then some (.tup [.str "wrong", y]) else none) else (some (.tup [.str "other", .non]))) | _ => none
theorem exm__law_heard {P : Program} {w : World} {K : PySem.W.Frag} {mg : Str → Option Value} {base : Heap} {B : Bx} (T : Top K mg B.ct) (TX : TopX P w K mg base B.ct T) : ∀ c, okc__law_heard c = true → PySem.W.exmOne K (.ref (B.ct c)) (.ref (B.ct 20)) = some true := fun c h => by
  simp only [okc__law_heard, Bool.or_eq_true, beq_iff_eq] at h
  subst h
  · exact TX.exm_Wrong
theorem suite__law_heard {P : Program} {w : World} {K : PySem.W.Frag} {mg : Str → Option Value} {base : Heap} {B : Bx} {g : Addr} {cdv : Value} {A : Around} {stk : List Env} {E0 : XK} (T : Top K mg B.ct) (TX : TopX P w K mg base B.ct T) : ∀ (u : Option (Hp × Hp)) (s : Shared) (H : Hp) (c : Nat) (f : Str) (y : D) (a dd : Addr) (oe : Obj) (pn : List (Addr × Obj)), okc__law_heard c = true → Zc (.ref (B.ct c)) (some dd) oe → (∃ vs, oe.data = .fields vs) →
    PSs ((cxOf CX0 P w K mg base ["_law_thing", "e"] "_law_heard" (defScope s__law_heard) g cdv A stk s H E0).nox.suite a ((a, oe) :: pn)) (handBody s__law_heard) (tVS K (B.at u) a dd f y 1 (hd__law_heard c f y)) := fun u s H c f y a dd oe pn h hz hf => by
  simp only [okc__law_heard, Bool.or_eq_true, beq_iff_eq] at h
  subst h
  · have e : hd__law_heard 21 f y = (if true = true then (if f = "place" then some (.tup [.str "wrong", y]) else none) else (some (.tup [.str "other", .non]))) := rfl
    rw [e]
    refine pvs_retE rfl ?_
    exact (pv_ife (pv_is TX.ec_Wrong hz hf TX.ki_Wrong_Wrong (by rfl) T.n_isinstance (by rfl) TX.e_Wrong.g (en := "e") rfl (.inl rfl)) (pv_fld TX.xf_Wrong TX.nf_Wrong_place hz hf rfl (.inl rfl)) pv_oth)
def tx_Heap___init__ (Wx : XW) : DTS := (dSeq (dIfS (tNt (tBl (dCall S_are_pieces (dCons (dVar 1) dNil)))) (dRaise Wx 21 "place" (dC (.int 0))) dNext)
  (dSelf 0 0 5 (dCall S_in_order (dCons (dVar 1) dNil))))
def Sx_Heap___init__ (Wx : XW) : FI := fun ds Q => ds.length + 1 = 2 ∧ ∀ x, tx_Heap___init__ Wx (endI x 5 Q) (startI 2 x 5 ds)
theorem okx_Heap___init__ {P : Program} {w : World} {K : PySem.W.Frag} {mg : Str → Option Value} {base : Heap} {B : Bx} {Wx : XW} (T : Top K mg B.ct) (TX : TopX P w K mg base B.ct T) : FnOk P w K mg base (L2.CX P w) 5 T.i_Heap___init__.f T.i_Heap___init__.fd ["self", "pieces"] (spIX K B 5 Wx (Sx_Heap___init__ Wx)) := by
  refine fn_initDX (k := 4) (t := tx_Heap___init__ Wx) T.i_Heap___init__.fn sc_Heap___init__ (fun ds Q h => h.1) (by decide) (fun cdv A outer s H E hr tk => ?_) (fun x _ _ h => h.2 x)
  refine psd_cons ?_ ?_
  · refine psd_if (ptd_not (ptd_val (pd_callD T.f_are_pieces (ok_are_pieces T) hr (by decide) (by rfl) (pad_cons (pd_var 1) pad_nil)))) ?_ ?_
    · refine psd_one ?_
      refine (psd_raise rfl tk TX.e_Wrong.oex TX.e_Wrong.init TX.e_Wrong.ty TX.e_Wrong.ok TX.e_Wrong.bd (hr.mono (by decide)) (by rfl) TX.e_Wrong.g pd_int)
    · exact psd_nil
  refine psd_one ?_
  refine (psd_selfD T.c_Heap T.s_Heap_kept_pieces (pv 0) (pd_callD T.f_in_order (ok_in_order T) hr (by decide) (by rfl) (pad_cons (pd_var 1) pad_nil)))
def t__law_heard : DTS := (dTryR okc__law_heard hd__law_heard fun Wx => (dTup (dCons (dC (.str (Str.ofString "made"))) (dCons (dOp oGe (dCall (cLenO 5 S_Heap___len__) (dCons (dMake 5 (Sx_Heap___init__ Wx) (dCons (dVar 0) dNil)) dNil)) (dC (.int 0))) dNil))))
def S__law_heard : FD := fun ds Q => ds.length = 1 ∧ t__law_heard { nx := fun _ => Q .non, rt := Q } (startD 2 ds)
theorem len__law_heard : ∀ ds Q, S__law_heard ds Q → ds.length = 1 := fun _ _ h => h.1
theorem vc__law_heard : ∀ ds Q, S__law_heard ds Q → t__law_heard { nx := fun _ => Q .non, rt := Q } (startD 2 ds) := fun _ _ h => h.2
theorem ok__law_heard {P : Program} {w : World} {K : PySem.W.Frag} {mg : Str → Option Value} {base : Heap} {B : Bx} (T : Top K mg B.ct) (TX : TopX P w K mg base B.ct T) (hB : B.tb = tbs TX) : FnOk P w K mg base CX0 7 T.f__law_heard.f T.f__law_heard.fd ["_law_thing"] (spD K B S__law_heard) := by
  refine fn_d (k := 6) (t := t__law_heard) T.f__law_heard.fn sc__law_heard len__law_heard (fun cdv A outer s H E hr => ?_) vc__law_heard
  refine psd_one ?_
  refine (psd_tryR (i := 1) rfl rfl sc__law_heard.nd rfl (by rfl) (by rfl) TX.g_RibbonError (exm__law_heard T TX) (fun u c f y a dd oe pn => suite__law_heard T TX u s H c f y a dd oe pn) (fun pn xe u Wx tk => (pd_tup (pad_cons pd_str (pad_cons (pd_cmp op_ge_d (pd_lenO T.m_Heap___len__ (r_Heap___len__ (B := (B.at u)) T) (hr.mono (by decide)) (by rfl) T.n_len (pd_makeX tk T.mk_Heap (fn_r (okx_Heap___init__ (B := (B.at u)) (Wx := Wx) T TX) T.i_Heap___init__.bd) (hr.mono (by decide)) (by rfl) T.g_Heap (pad_cons (pd_var 0) pad_nil))) pd_int (by rfl)) pad_nil)))))
def _law_odd_at_5 : DTS := (dFrz 3 (dRet (dOp oIx (dVar 3) (dCall S__law_take (dCons (dVar 0) (dCons (dCall cLen (dCons (dVar 3) dNil)) dNil))))))
def _law_odd_at_4 : DTS := (dSeq (dExt 3 (fLst (dCons (dTup (dCons (dC (.str (Str.ofString "turns"))) (dCons (dC (.str (Str.ofString ""))) (dCons (dC (.str (Str.ofString "1"))) dNil)))) (dCons (dTup (dCons (dC (.str (Str.ofString "always"))) (dCons (dC (.bl true)) dNil))) (dCons (dTup (dCons (dC (.str (Str.ofString "not"))) (dCons (dTup (dCons (dC (.str (Str.ofString "always"))) (dCons (dC (.int 1)) dNil))) dNil))) (dCons (dTup (dCons (dF (fLst dNil)) dNil)) (dCons (dDicT1 (dTup (dCons (dC (.int 0)) (dCons (dC (.int 0)) dNil))) (dC (.str (Str.ofString "1")))) (dCons (dF (fLst (dCons (dTup (dCons (dC (.str (Str.ofString "sun"))) (dCons (dC (.int 0)) dNil))) dNil))) dNil))))))))
  _law_odd_at_5)
def _law_odd_at_3 : DTS := (dSeq (dExt 3 (fLst (dCons (dF (fLst (dCons (dC (.int 1)) dNil))) (dCons (dTup (dCons (dC (.int 0)) dNil)) (dCons (dTup (dCons (dC (.int 0)) (dCons (dC (.int 0)) dNil))) (dCons (dTup (dCons (dC (.int 0)) (dCons (dC (.int 0)) (dCons (dC (.int 0)) dNil)))) (dCons (dTup (dCons (dVar 1) dNil)) (dCons (dF (fLst (dCons (dVar 1) dNil))) (dCons (dDic1 (dVar 1) (dC (.int 1))) (dCons (dTup (dCons (dC (.str (Str.ofString "sun"))) (dCons (dC (.int 0)) dNil))) (dCons (dTup (dCons (dC (.str (Str.ofString "moon"))) (dCons (dC (.int 0)) dNil))) (dCons (dTup (dCons (dC (.str (Str.ofString "sun"))) (dCons (dC (.bl true)) dNil))) dNil))))))))))))
  _law_odd_at_4)
def _law_odd_at_2 : DTS := (dSeq (dSetT 3 (oF (fLst (dCons (dC (.int 0)) (dCons (dC (.int 1)) (dCons (dUn oNeg (dC (.int 1))) (dCons (dC (.int 2)) (dCons (dVar 2) (dCons (dUn oNeg (dVar 2)) (dCons (dC (.bl true)) (dCons (dC (.bl false)) (dCons (dC .non) (dCons (dC (.str (Str.ofString ""))) (dCons (dC (.str (Str.ofString "0"))) (dCons (dC (.str (Str.ofString "1"))) (dCons (dC (.str (Str.ofString "01"))) (dCons (dC (.str (Str.ofString "2"))) (dCons (dC (.str (Str.ofString "a"))) (dCons (dC (.str (Str.ofString " "))) (dCons (dVar 1) (dCons (dC (.str (Str.ofString "Sun"))) (dCons (dF (fLst dNil)) (dCons (dTup dNil) (dCons dDic0 dNil))))))))))))))))))))))))
  _law_odd_at_3)
def t__law_odd : DTS := (dSeq (dSet 2 (dCall cInt (dCons (dOp oAdd (dC (.str (Str.ofString "1"))) (dOp oMul (dC (.str (Str.ofString "0"))) (dCall S__law_take (dCons (dVar 0) (dCons (dC (.int 40)) dNil))))) dNil)))
  _law_odd_at_2)
def S__law_odd : FD := fun ds Q => ds.length = 2 ∧ t__law_odd { nx := fun _ => Q .non, rt := Q } (startD 4 ds)
theorem len__law_odd : ∀ ds Q, S__law_odd ds Q → ds.length = 2 := fun _ _ h => h.1
theorem vc__law_odd : ∀ ds Q, S__law_odd ds Q → t__law_odd { nx := fun _ => Q .non, rt := Q } (startD 4 ds) := fun _ _ h => h.2
theorem ok__law_odd {P : Program} {w : World} {K : PySem.W.Frag} {mg : Str → Option Value} {base : Heap} {B : Bx} (T : Top K mg B.ct) : FnOk P w K mg base CX0 2 T.f__law_odd.f T.f__law_odd.fd ["_law_bag_here", "_law_name"] (spD K B S__law_odd) := by
  refine fn_d (k := 1) (t := t__law_odd) T.f__law_odd.fn sc__law_odd len__law_odd (fun cdv A outer s H E hr => ?_) vc__law_odd
  refine psd_cons ?_ ?_
  · refine (psd_set (i := 2) sc__law_odd.nd rfl (by first | exact .inl rfl | exact .inr rfl) (pd_callTy call_int_d (by rfl) T.n_int (by decide +kernel) (pad_cons (pd_bin op_add_d pd_str (pd_bin op_mul_d pd_str (pd_callD T.f__law_take (ok__law_take T) hr (by decide) (by rfl) (pad_cons (pd_var 0) (pad_cons pd_int pad_nil))))) pad_nil)))
  refine psd_cons ?_ ?_
  · refine (psd_setT (i := 3) sc__law_odd.nd rfl (by first | exact .inl rfl | exact .inr rfl) (po_f (pf_lst (pad_cons pd_int (pad_cons pd_int (pad_cons (pd_un un_neg_d pd_int) (pad_cons pd_int (pad_cons (pd_var 2) (pad_cons (pd_un un_neg_d (pd_var 2)) (pad_cons pd_bl (pad_cons pd_bl (pad_cons pd_non (pad_cons pd_str (pad_cons pd_str (pad_cons pd_str (pad_cons pd_str (pad_cons pd_str (pad_cons pd_str (pad_cons pd_str (pad_cons (pd_var 1) (pad_cons pd_str (pad_cons (pd_f (pf_lst pad_nil)) (pad_cons (pd_tup pad_nil) (pad_cons pd_dic0 pad_nil))))))))))))))))))))))))
  refine psd_cons ?_ ?_
  · refine (psd_ext (i := 3) sc__law_odd.nd rfl (by first | exact .inl rfl | exact .inr rfl) (pf_lst (pad_cons (pd_f (pf_lst (pad_cons pd_int pad_nil))) (pad_cons (pd_tup (pad_cons pd_int pad_nil)) (pad_cons (pd_tup (pad_cons pd_int (pad_cons pd_int pad_nil))) (pad_cons (pd_tup (pad_cons pd_int (pad_cons pd_int (pad_cons pd_int pad_nil)))) (pad_cons (pd_tup (pad_cons (pd_var 1) pad_nil)) (pad_cons (pd_f (pf_lst (pad_cons (pd_var 1) pad_nil))) (pad_cons (pd_dic1 (pd_var 1) pd_int) (pad_cons (pd_tup (pad_cons pd_str (pad_cons pd_int pad_nil))) (pad_cons (pd_tup (pad_cons pd_str (pad_cons pd_int pad_nil))) (pad_cons (pd_tup (pad_cons pd_str (pad_cons pd_bl pad_nil))) pad_nil))))))))))))
  refine psd_cons ?_ ?_
  · refine (psd_ext (i := 3) sc__law_odd.nd rfl (by first | exact .inl rfl | exact .inr rfl) (pf_lst (pad_cons (pd_tup (pad_cons pd_str (pad_cons pd_str (pad_cons pd_str pad_nil)))) (pad_cons (pd_tup (pad_cons pd_str (pad_cons pd_bl pad_nil))) (pad_cons (pd_tup (pad_cons pd_str (pad_cons (pd_tup (pad_cons pd_str (pad_cons pd_int pad_nil))) pad_nil))) (pad_cons (pd_tup (pad_cons (pd_f (pf_lst pad_nil)) pad_nil)) (pad_cons (pd_dicT1 (room_u0 hr) (pd_tup (pad_cons pd_int (pad_cons pd_int pad_nil))) pd_str) (pad_cons (pd_f (pf_lst (pad_cons (pd_tup (pad_cons pd_str (pad_cons pd_int pad_nil))) pad_nil))) pad_nil))))))))
  refine psds_frz 3 ?_
  refine psd_one ?_
  refine (psd_ret (pd_ix ix_d (pd_var 3) (pd_callD T.f__law_take (ok__law_take T) hr (by decide) (by rfl) (pad_cons (pd_var 0) (pad_cons (pd_callB call_len_d (by rfl) T.n_len (by decide +kernel) (pad_cons (pd_var 3) pad_nil)) pad_nil)))))
def t__law_handed : DTS := (dRet (dOp oIx (dF (fLst (dCons (dF (fList (dCons (dVar 1) dNil))) (dCons (dCall cTuple (dCons (dVar 1) dNil)) dNil)))) (dCall S__law_take (dCons (dVar 0) (dCons (dC (.int 2)) dNil)))))
def S__law_handed : FD := fun ds Q => ds.length = 2 ∧ t__law_handed { nx := fun _ => Q .non, rt := Q } (startD 2 ds)
theorem len__law_handed : ∀ ds Q, S__law_handed ds Q → ds.length = 2 := fun _ _ h => h.1
theorem vc__law_handed : ∀ ds Q, S__law_handed ds Q → t__law_handed { nx := fun _ => Q .non, rt := Q } (startD 2 ds) := fun _ _ h => h.2
theorem ok__law_handed {P : Program} {w : World} {K : PySem.W.Frag} {mg : Str → Option Value} {base : Heap} {B : Bx} (T : Top K mg B.ct) : FnOk P w K mg base CX0 2 T.f__law_handed.f T.f__law_handed.fd ["_law_bag_here", "_law_some"] (spD K B S__law_handed) := by
  refine fn_d (k := 1) (t := t__law_handed) T.f__law_handed.fn sc__law_handed len__law_handed (fun cdv A outer s H E hr => ?_) vc__law_handed
  refine psd_one ?_
  refine (psd_ret (pd_ix ix_d (pd_f (pf_lst (pad_cons (pd_f (pf_list (by rfl) T.n_list (pad_cons (pd_var 1) pad_nil))) (pad_cons (pd_callTy call_tuple_d (by rfl) T.n_tuple (by decide +kernel) (pad_cons (pd_var 1) pad_nil)) pad_nil)))) (pd_callD T.f__law_take (ok__law_take T) hr (by decide) (by rfl) (pad_cons (pd_var 0) (pad_cons pd_int pad_nil)))))
def _law_spoilt_at_5 : DTS := (dRet (dCall S__law_handed (dCons (dVar 0) (dCons (dOp oAddE (dOp oAddE (dSl (dVar 1) noP (aP (dVar 3))) (dF (fLst (dCons (dOp oIx (dOp oAddE (dVar 8) (dF (fLst (dCons (dVar 2) dNil)))) (dVar 5)) dNil)))) (dSl (dVar 1) (aP (dOp oAddE (dVar 3) (dC (.int 1)))) noP)) dNil))))
def _law_spoilt_at_4 : DTS := (dSeq (dSet 8 (dF (fLst (dCons (dOp oAddE (dOp oAddE (dSl (dVar 6) noP (aP (dVar 4))) (dTup (dCons (dVar 7) dNil))) (dSl (dVar 6) (aP (dOp oAddE (dVar 4) (dC (.int 1)))) noP)) (dCons (dOp oAddE (dSl (dVar 6) noP (aP (dVar 4))) (dSl (dVar 6) (aP (dOp oAddE (dVar 4) (dC (.int 1)))) noP)) (dCons (dOp oAddE (dVar 6) (dTup (dCons (dVar 2) dNil))) (dCons (dF (fList (dCons (dVar 6) dNil))) dNil)))))))
  _law_spoilt_at_5)
def _law_spoilt_at_3 : DTS := (dSeq (dSet 7 (dOp oIx (dF (fLst (dCons (dVar 2) (dCons (dIfE (tBl (dOp oGt (dVar 4) (dC (.int 1)))) (dCall cInt (dCons (dOp oIx (dVar 6) (dVar 4)) dNil)) (dOp oEq (dOp oIx (dVar 6) (dVar 4)) (dC (.int 1)))) (dCons (dUn oNeg (dC (.int 1))) (dCons (dC .non) dNil)))))) (dCall S__law_take (dCons (dVar 0) (dCons (dC (.int 4)) dNil)))))
  _law_spoilt_at_4)
def _law_spoilt_at_2 : DTS := (dSeq (dSet 6 (dOp oIx (dOp oAddE (dVar 1) (dF (fLst (dCons (dTup (dCons (dC (.int 0)) (dCons (dC (.int 0)) (dCons (dC (.bl true)) (dCons (dC (.bl true)) dNil))))) dNil)))) (dVar 3)))
  _law_spoilt_at_3)
def t__law_spoilt : DTS := (dSeq (dPar3 3 4 5 (oCons (oD (dCall S__law_take (dCons (dVar 0) (dCons (dOp oAddE (dCall cLen (dCons (dVar 1) dNil)) (dC (.int 1))) dNil)))) (oCons (oD (dCall S__law_take (dCons (dVar 0) (dCons (dC (.int 4)) dNil)))) (oCons (oD (dCall S__law_take (dCons (dVar 0) (dCons (dC (.int 5)) dNil)))) oNil))))
  _law_spoilt_at_2)
def S__law_spoilt : FD := fun ds Q => ds.length = 3 ∧ t__law_spoilt { nx := fun _ => Q .non, rt := Q } (startD 9 ds)
theorem len__law_spoilt : ∀ ds Q, S__law_spoilt ds Q → ds.length = 3 := fun _ _ h => h.1
theorem vc__law_spoilt : ∀ ds Q, S__law_spoilt ds Q → t__law_spoilt { nx := fun _ => Q .non, rt := Q } (startD 9 ds) := fun _ _ h => h.2
theorem ok__law_spoilt {P : Program} {w : World} {K : PySem.W.Frag} {mg : Str → Option Value} {base : Heap} {B : Bx} (T : Top K mg B.ct) : FnOk P w K mg base CX0 3 T.f__law_spoilt.f T.f__law_spoilt.fd ["_law_bag_here", "_law_pieces", "_law_odd_here"] (spD K B S__law_spoilt) := by
  refine fn_d (k := 2) (t := t__law_spoilt) T.f__law_spoilt.fn sc__law_spoilt len__law_spoilt (fun cdv A outer s H E hr => ?_) vc__law_spoilt
  refine psd_cons ?_ ?_
  · refine (psd_par3 (i := 3) (j := 4) (l := 5) rfl sc__law_spoilt.nd rfl rfl rfl (by decide) (by decide) (by decide) rfl rfl rfl (pao_cons (po_d (pd_callD T.f__law_take (ok__law_take T) hr (by decide) (by rfl) (pad_cons (pd_var 0) (pad_cons (pd_bin op_addE (pd_callB call_len_d (by rfl) T.n_len (by decide +kernel) (pad_cons (pd_var 1) pad_nil)) pd_int) pad_nil)))) (pao_cons (po_d (pd_callD T.f__law_take (ok__law_take T) hr (by decide) (by rfl) (pad_cons (pd_var 0) (pad_cons pd_int pad_nil)))) (pao_cons (po_d (pd_callD T.f__law_take (ok__law_take T) hr (by decide) (by rfl) (pad_cons (pd_var 0) (pad_cons pd_int pad_nil)))) pao_nil))) (by rfl))
  refine psd_cons ?_ ?_
  · refine (psd_set (i := 6) sc__law_spoilt.nd rfl (by first | exact .inl rfl | exact .inr rfl) (pd_ix ix_d (pd_bin op_addE (pd_var 1) (pd_f (pf_lst (pad_cons (pd_tup (pad_cons pd_int (pad_cons pd_int (pad_cons pd_bl (pad_cons pd_bl pad_nil))))) pad_nil)))) (pd_var 3)))
  refine psd_cons ?_ ?_
  · refine (psd_set (i := 7) sc__law_spoilt.nd rfl (by first | exact .inl rfl | exact .inr rfl) (pd_ix ix_d (pd_f (pf_lst (pad_cons (pd_var 2) (pad_cons (pd_ifE (ptd_cmp op_gt_d (pd_var 4) pd_int (by rfl)) (pd_callTy call_int_d (by rfl) T.n_int (by decide +kernel) (pad_cons (pd_ix ix_d (pd_var 6) (pd_var 4)) pad_nil)) (pd_cmp (op_eq_d hr.units) (pd_ix ix_d (pd_var 6) (pd_var 4)) pd_int (by rfl))) (pad_cons (pd_un un_neg_d pd_int) (pad_cons pd_non pad_nil)))))) (pd_callD T.f__law_take (ok__law_take T) hr (by decide) (by rfl) (pad_cons (pd_var 0) (pad_cons pd_int pad_nil)))))
  refine psd_cons ?_ ?_
  · refine (psd_set (i := 8) sc__law_spoilt.nd rfl (by first | exact .inl rfl | exact .inr rfl) (pd_f (pf_lst (pad_cons (pd_bin op_addE (pd_bin op_addE (pd_slice (pd_var 6) pod_none (pod_some (pd_var 4))) (pd_tup (pad_cons (pd_var 7) pad_nil))) (pd_slice (pd_var 6) (pod_some (pd_bin op_addE (pd_var 4) pd_int)) pod_none)) (pad_cons (pd_bin op_addE (pd_slice (pd_var 6) pod_none (pod_some (pd_var 4))) (pd_slice (pd_var 6) (pod_some (pd_bin op_addE (pd_var 4) pd_int)) pod_none)) (pad_cons (pd_bin op_addE (pd_var 6) (pd_tup (pad_cons (pd_var 2) pad_nil))) (pad_cons (pd_f (pf_list (by rfl) T.n_list (pad_cons (pd_var 6) pad_nil))) pad_nil)))))))
  refine psd_one ?_
  refine (psd_ret (pd_callD T.f__law_handed (ok__law_handed T) hr (by decide) (by rfl) (pad_cons (pd_var 0) (pad_cons (pd_bin op_addE (pd_bin op_addE (pd_slice (pd_var 1) pod_none (pod_some (pd_var 3))) (pd_f (pf_lst (pad_cons (pd_ix ix_d (pd_bin op_addE (pd_var 8) (pd_f (pf_lst (pad_cons (pd_var 2) pad_nil)))) (pd_var 5)) pad_nil)))) (pd_slice (pd_var 1) (pod_some (pd_bin op_addE (pd_var 3) pd_int)) pod_none)) pad_nil))))
def b_law_1 : DTS := (dIfS (tOrr (tNt (tBl (dCall S__law_alike (dCons (dCall S__law_heard (dCons (dVar 6) dNil)) (dCons (dVar 7) dNil))))) (tBl (dOp oNe (dCall cReprN (dCons (dVar 6) dNil)) (dVar 8)))) (dRet (dC (.bl false))) dNext)
def law_at_10 : DTS := (dIfS (tOrr (tAn (tBl (dOp oEq (dOp oIx (dVar 7) (dC (.int 0))) (dC (.str (Str.ofString "wrong"))))) (tBl (dOp (oIs true) (dMeth 5 S_Heap_is_order (dVar 5) (dCons (dVar 6) dNil)) (dC (.bl false))))) (tBl (dOp oNe (dCall cReprN (dCons (dVar 6) dNil)) (dVar 8)))) (dRet (dC (.bl false))) dNext)
def law_at_7 : DTS := (dSeq (dFor (iR1 (dCons (dC (.int 2)) dNil)) (gN 9) b_law_1)
  law_at_10)
def b_law_2 : DTS := (dSeq (dPar 7 8 (dCons (dIfE (tBl (dCall S__law_are_pieces (dCons (dVar 6) dNil))) (dTup (dCons (dC (.str (Str.ofString "made"))) (dCons (dC (.bl true)) dNil))) (dTup (dCons (dC (.str (Str.ofString "wrong"))) (dCons (dC (.int 0)) dNil)))) (dCons (dCall cReprN (dCons (dVar 6) dNil)) dNil)))
  law_at_7)
def b_law_3 : DTS := (dIfS (tBl (dOp oNe (dMeth 5 S_Heap_pieces_of (dVar 5) (dCons (dVar 6) dNil)) (dF (fLst dNil)))) (dRet (dC (.bl false))) dNext)
def law_at_21 : DTS := (dIfS (tBl (dOp oNe (dF (fLc (iSeq (dOp oAdd (dVar 16) (dF (fLst (dCons (dTup (dCons (dVar 12) (dCons (dOp oEq (dVar 13) (dC (.int 1))) (dCons (dVar 14) (dCons (dVar 15) dNil))))) (dCons (dTup (dCons (dVar 12) (dCons (dVar 13) (dCons (dVar 14) (dCons (dVar 15) (dCons (dVar 15) dNil)))))) dNil)))))) (gN 17) (tBl (dOp (oInO false 5 S_Heap___contains__) (dVar 17) (dVar 5))) (dC (.int 1)) [17])) (dF (fLst dNil)))) (dRet (dC (.bl false))) dNext)
def b_law_4 : DTS := (dSeq (dSet 16 (dF (fLst (dCons (dTup (dCons (dVar 12) (dCons (dVar 13) (dCons (dCall cInt (dCons (dVar 14) dNil)) (dCons (dVar 15) dNil))))) (dCons (dF (fLst (dCons (dVar 12) (dCons (dVar 13) (dCons (dVar 14) (dCons (dVar 15) dNil)))))) (dCons (dTup (dCons (dVar 12) (dCons (dVar 13) (dCons (dVar 14) (dCons (dCall cInt (dCons (dVar 15) dNil)) dNil))))) (dCons (dTup (dCons (dOp oEq (dVar 12) (dC (.int 1))) (dCons (dVar 13) (dCons (dVar 14) (dCons (dVar 15) dNil))))) dNil)))))))
  law_at_21)
def law_at_23 : DTS := (dIfS (tOrr (tBl (dOp (oIs true) (dMeth 5 S_Heap_is_order (dVar 5) (dCons (dVar 5) dNil)) (dC (.bl false)))) (tOrr (tBl (dOp (oInO false 5 S_Heap___contains__) (dVar 5) (dVar 5))) (tBl (dOp oNe (dCall S__law_heard (dCons (dVar 5) dNil)) (dTup (dCons (dC (.str (Str.ofString "wrong"))) (dCons (dC (.int 0)) dNil))))))) (dRet (dC (.bl false))) dNext)
def law_at_19 : DTS := (dSeq (dFor (iSeq (dSl (dVar 3) noP (aP (dC (.int 3))))) (gT 4 (gsCons (gN 12) (gsCons (gN 13) (gsCons (gN 14) (gsCons (gN 15) gsNil))))) b_law_4)
  law_at_23)
def law_at_16 : DTS := (dSeq (dFor (iSeq (dOp oAdd (dVar 11) (dF (fLst (dCons (dTup (dCons (dC (.str (Str.ofString "sun"))) (dCons (dC (.str (Str.ofString "0"))) dNil))) (dCons (dC (.int 5)) (dCons dDic0 (dCons (dF (fLst dNil)) (dCons (dTup (dCons (dTup (dCons (dC (.str (Str.ofString "sun"))) dNil)) (dCons (dC (.int 0)) dNil))) dNil))))))))) (gN 6) b_law_3)
  law_at_19)
def law_at_15 : DTS := (dSeq (dSet 11 (dF (fLst (dCons (dTup (dCons (dC (.str (Str.ofString "sun"))) (dCons (dC (.bl true)) dNil))) (dCons (dTup (dCons (dC (.str (Str.ofString "sun"))) (dCons (dUn oNeg (dC (.int 1))) dNil))) (dCons (dTup (dCons (dC (.str (Str.ofString "Sun"))) (dCons (dC (.int 0)) dNil))) (dCons (dF (fLst (dCons (dC (.str (Str.ofString "sun"))) (dCons (dC (.int 0)) dNil)))) (dCons (dTup (dCons (dC (.str (Str.ofString "moon"))) dNil)) (dCons (dTup (dCons (dC (.str (Str.ofString "moon"))) (dCons (dC (.int 0)) (dCons (dC (.int 0)) dNil)))) (dCons (dC .non) (dCons (dC (.str (Str.ofString "sun"))) dNil)))))))))))
  law_at_16)
def law_at_13 : DTS := (dSeq (dIfS (tOrr (tBl (dOp (oInO false 5 S_Heap___contains__) (dVar 4) (dVar 5))) (tNt (tBl (dCall S__law_alike (dCons (dMeth 5 S_Heap_is_order (dVar 5) (dCons (dVar 4) dNil)) (dCons (dVar 10) dNil)))))) (dRet (dC (.bl false))) dNext)
  law_at_15)
def law_at_12 : DTS := (dSeq (dSet 10 (dAn (dIsiA "list" [5] (dVar 4)) (dAn (dOp oEqE (dVar 4) (dF (fLst dNil))) (dOp oEq (dCall (cLenO 5 S_Heap___len__) (dCons (dVar 5) dNil)) (dC (.int 0))))))
  law_at_13)
def law_at_5 : DTS := (dSeq (dFor (iSeq (dTup (dCons (dCall S__law_spoilt (dCons (dVar 1) (dCons (dVar 3) (dCons (dVar 4) dNil)))) (dCons (dVar 4) (dCons (dF (fLst (dCons (dVar 4) dNil))) (dCons (dTup (dCons (dVar 3) dNil)) dNil)))))) (gN 6) b_law_2)
  law_at_12)
def law_at_4 : DTS := (dSeq (dSet 5 (dMake 5 S_Heap___init__ (dCons (dVar 3) dNil)))
  law_at_5)
def b_law_5 : DTS := (dSeq (dPar 3 4 (dCons (dCall S__law_drawn_pieces (dCons (dVar 1) (dCons (dC (.int 5)) dNil))) (dCons (dCall S__law_odd (dCons (dVar 1) (dCons (dC (.str (Str.ofString "sun"))) dNil))) dNil)))
  law_at_4)
def law_at_25 : DTS := (dRet (dC (.bl true)))
def t_law : DTS := (dSeq (dFor (iR1 (dCons (dC (.int 8)) dNil)) (gN 2) b_law_5)
  law_at_25)
abbrev Pc := Int × Int × Bool × Bool
def tch (a b : Pc) : Bool := decide (a.1 = b.1) || decide (a.2.1 = b.2.1)
def ctr (p : Pc) : Pc := (p.1, p.2.1, p.2.2.1, !p.2.2.2)
theorem ctr_ctr (p : Pc) : ctr (ctr p) = p := by
  obtain ⟨i, j, a, o⟩ := p
  simp [ctr]
theorem tch_cl (a b : Pc) : tch (ctr a) b = tch a b := rfl
theorem tch_cr (a b : Pc) : tch a (ctr b) = tch a b := rfl
theorem tch_symm (a b : Pc) : tch a b = tch b a := by
  unfold tch
  rw [decide_eq_decide.mpr (eq_comm (a := a.1)), decide_eq_decide.mpr (eq_comm (a := a.2.1))]
theorem tch_self (a : Pc) : tch a a = true := by simp [tch]
/-- neighbours that pass one another are exchanged -/
inductive Cm : List Pc → List Pc → Prop
  | nil : Cm [] []
  | cons {u v : List Pc} (a : Pc) : Cm u v → Cm (a :: u) (a :: v)
  | swap {a b : Pc} (u : List Pc) : tch a b = false → Cm (a :: b :: u) (b :: a :: u)
  | trans {u v w : List Pc} : Cm u v → Cm v w → Cm u w
theorem Cm.refl : ∀ u : List Pc, Cm u u
  | [] => .nil
  | a :: u => .cons a (Cm.refl u)
theorem Cm.symm {u v : List Pc} (h : Cm u v) : Cm v u := by
  induction h with
  | nil => exact .nil
  | cons a _ ih => exact .cons a ih
  | swap u h => exact .swap u (by rw [tch_symm]; exact h)
  | trans _ _ i1 i2 => exact .trans i2 i1
theorem Cm.right {u v : List Pc} (h : Cm u v) (w : List Pc) : Cm (u ++ w) (v ++ w) := by
  induction h with
  | nil => exact Cm.refl _
  | cons a _ ih => exact .cons a ih
  | swap u h => exact .swap _ h
  | trans _ _ i1 i2 => exact .trans i1 i2
theorem Cm.left {u v : List Pc} (h : Cm u v) : ∀ w : List Pc, Cm (w ++ u) (w ++ v)
  | [] => h
  | a :: w => .cons a (Cm.left h w)
theorem Cm.rev {u v : List Pc} (h : Cm u v) : Cm u.reverse v.reverse := by
  induction h with
  | nil => exact .nil
  | cons a _ ih => rw [List.reverse_cons, List.reverse_cons]; exact ih.right _
  | @swap a b u h =>
    rw [List.reverse_cons, List.reverse_cons, List.reverse_cons, List.reverse_cons, List.append_assoc, List.append_assoc]
    exact Cm.left (.swap [] (by rw [tch_symm]; exact h)) _
  | trans _ _ i1 i2 => exact .trans i1 i2
theorem Cm.len {u v : List Pc} (h : Cm u v) : u.length = v.length := by
  induction h with
  | nil => rfl
  | cons a _ ih => rw [List.length_cons, List.length_cons, ih]
  | swap u h => rfl
  | trans _ _ i1 i2 => exact i1.trans i2
theorem Cm.map {f : Pc → Pc} (hf : ∀ a b, tch (f a) (f b) = tch a b) {u v : List Pc} (h : Cm u v) : Cm (u.map f) (v.map f) := by
  induction h with
  | nil => exact .nil
  | cons a _ ih => exact .cons _ ih
  | swap u h => exact .swap _ (by rw [hf]; exact h)
  | trans _ _ i1 i2 => exact .trans i1 i2
/-- what is behind all stands first; the last one that touches is taken out, if it is the contrary one -/
def rem : List Pc → Pc → Option (List Pc)
  | [], _ => none
  | q :: r, p => if tch q p = true then (if q = ctr p then some r else none) else (rem r p).map (q :: ·)
def psh (r : List Pc) (p : Pc) : List Pc := match rem r p with
  | none => p :: r
  | some r' => r'
theorem rem_n {q p : Pc} {r : List Pc} (h : tch q p = false) : rem (q :: r) p = (rem r p).map (q :: ·) := by
  rw [rem, if_neg (by rw [h]; decide)]
theorem rem_t {q p : Pc} {r : List Pc} (h : tch q p = true) : rem (q :: r) p = if q = ctr p then some r else none := by
  rw [rem, if_pos h]
theorem rem_cm {u v : List Pc} (p : Pc) (h : Cm u v) : (rem u p = none ∧ rem v p = none) ∨ ∃ u' v', rem u p = some u' ∧ rem v p = some v' ∧ Cm u' v' := by
  induction h with
  | nil => exact .inl ⟨rfl, rfl⟩
  | @cons u v a h ih =>
    cases t : tch a p with
    | true =>
      rw [rem_t t, rem_t t]
      by_cases c : a = ctr p
      · rw [if_pos c, if_pos c]; exact .inr ⟨_, _, rfl, rfl, h⟩
      · rw [if_neg c, if_neg c]; exact .inl ⟨rfl, rfl⟩
    | false =>
      rw [rem_n t, rem_n t]
      rcases ih with ⟨h1, h2⟩ | ⟨u', v', h1, h2, h3⟩
      · rw [h1, h2]; exact .inl ⟨rfl, rfl⟩
      · rw [h1, h2]; exact .inr ⟨_, _, rfl, rfl, .cons a h3⟩
  | @swap a b u h =>
    have h' : tch b a = false := by rw [tch_symm]; exact h
    cases t : tch a p with
    | true =>
      cases s : tch b p with
      | true =>
        have c1 : a ≠ ctr p := fun e => by
          rw [e, tch_cl, tch_symm, s] at h; cases h
        have c2 : b ≠ ctr p := fun e => by
          rw [e, tch_cr, t] at h; cases h
        rw [rem_t t, rem_t s, if_neg c1, if_neg c2]
        exact .inl ⟨rfl, rfl⟩
      | false =>
        rw [rem_t t, rem_n s, rem_t t]
        by_cases c : a = ctr p
        · rw [if_pos c, if_pos c]; exact .inr ⟨_, _, rfl, rfl, Cm.refl _⟩
        · rw [if_neg c, if_neg c]; exact .inl ⟨rfl, rfl⟩
    | false =>
      cases s : tch b p with
      | true =>
        rw [rem_n t, rem_t s, rem_t s]
        by_cases c : b = ctr p
        · rw [if_pos c, if_pos c]; exact .inr ⟨_, _, rfl, rfl, Cm.refl _⟩
        · rw [if_neg c, if_neg c]; exact .inl ⟨rfl, rfl⟩
      | false =>
        rw [rem_n t, rem_n s, rem_n s, rem_n t]
        cases e : rem u p with
        | none => exact .inl ⟨rfl, rfl⟩
        | some u' => exact .inr ⟨_, _, rfl, rfl, .swap _ h⟩
  | trans _ _ i1 i2 =>
    rcases i1 with ⟨h1, h2⟩ | ⟨u', v', h1, h2, h3⟩
    · rcases i2 with ⟨g1, g2⟩ | ⟨v2, w', g1, g2, g3⟩
      · exact .inl ⟨h1, g2⟩
      · rw [h2] at g1; cases g1
    · rcases i2 with ⟨g1, g2⟩ | ⟨v2, w', g1, g2, g3⟩
      · rw [h2] at g1; cases g1
      · rw [h2] at g1; cases g1
        exact .inr ⟨_, _, h1, g2, .trans h3 g3⟩
theorem rem_none {u v : List Pc} {p : Pc} (h : Cm u v) (e : rem u p = none) : rem v p = none := by
  rcases rem_cm p h with ⟨_, h2⟩ | ⟨_, _, h1, _⟩
  · exact h2
  · rw [e] at h1; cases h1
theorem rem_some {u v u' : List Pc} {p : Pc} (h : Cm u v) (e : rem u p = some u') : ∃ v', rem v p = some v' ∧ Cm u' v' := by
  rcases rem_cm p h with ⟨h1, _⟩ | ⟨_, v', h1, h2, h3⟩
  · rw [e] at h1; cases h1
  · rw [e] at h1; cases h1; exact ⟨v', h2, h3⟩
theorem psh_cm {u v : List Pc} (p : Pc) (h : Cm u v) : Cm (psh u p) (psh v p) := by
  unfold psh
  rcases rem_cm p h with ⟨h1, h2⟩ | ⟨u', v', h1, h2, h3⟩
  · rw [h1, h2]; exact .cons p h
  · rw [h1, h2]; exact h3
theorem rem_spec : ∀ {r r' : List Pc} {p : Pc}, rem r p = some r' → Cm r (ctr p :: r')
  | [], _, _, h => by cases h
  | q :: r, r', p, h => by
    cases t : tch q p with
    | true =>
      rw [rem_t t] at h
      by_cases c : q = ctr p
      · rw [if_pos c] at h; cases h; rw [c]; exact Cm.refl _
      · rw [if_neg c] at h; cases h
    | false =>
      rw [rem_n t] at h
      obtain ⟨s, hs, rfl⟩ := Option.map_eq_some_iff.mp h
      exact .trans (.cons q (rem_spec hs)) (.swap _ t)
/-- nothing can be taken out -/
def Rd : List Pc → Prop
  | [] => True
  | p :: r => Rd r ∧ rem r p = none
theorem Rd.cm {u v : List Pc} (h : Cm u v) : Rd u → Rd v := by
  induction h with
  | nil => exact id
  | cons a h ih => exact fun z => ⟨ih z.1, rem_none h z.2⟩
  | @swap a b u h =>
    rintro ⟨⟨h1, h2⟩, h3⟩
    have h' : tch b a = false := by rw [tch_symm]; exact h
    rw [rem_n h'] at h3
    refine ⟨⟨h1, Option.map_eq_none_iff.mp h3⟩, ?_⟩
    rw [rem_n h, h2]; rfl
  | trans _ _ i1 i2 => exact fun z => i2 (i1 z)
theorem Rd.rem {r r' : List Pc} {p : Pc} (h : Rd r) (e : My.rem r p = some r') : Rd (ctr p :: r') := Rd.cm (rem_spec e) h
theorem Rd.psh {r : List Pc} {p : Pc} (h : Rd r) : Rd (My.psh r p) := by
  unfold My.psh
  cases e : My.rem r p with
  | none => exact ⟨h, e⟩
  | some r' => exact (h.rem e).1
theorem psh_psh {r : List Pc} (p : Pc) (h : Rd r) : Cm (psh (psh r p) (ctr p)) r := by
  cases e : rem r p with
  | none =>
    have e1 : psh r p = p :: r := by unfold psh; rw [e]
    have e2 : rem (p :: r) (ctr p) = some r := by rw [rem_t (by rw [tch_cr]; exact tch_self p), if_pos (ctr_ctr p).symm]
    rw [e1]
    unfold psh
    rw [e2]
    exact Cm.refl _
  | some r' =>
    have e1 : psh r p = r' := by unfold psh; rw [e]
    have e2 := (h.rem e).2
    rw [e1]
    unfold psh
    rw [e2]
    exact (rem_spec e).symm
theorem psh_comm {p q : Pc} (h : tch p q = false) (r : List Pc) : Cm (psh (psh r p) q) (psh (psh r q) p) := by
  have h' : tch q p = false := by rw [tch_symm]; exact h
  have ps : ∀ {r r' : List Pc} {p : Pc}, rem r p = some r' → psh r p = r' := fun e => by unfold psh; rw [e]
  have pn : ∀ {r : List Pc} {p : Pc}, rem r p = none → psh r p = p :: r := fun e => by unfold psh; rw [e]
  have mix : ∀ {p q : Pc} {r r2 : List Pc}, tch p q = false → rem r p = none → rem r q = some r2 → psh (psh r p) q = psh (psh r q) p := by
    intro p q r r2 h e1 e2
    have h' : tch q p = false := by rw [tch_symm]; exact h
    have e3 : rem (ctr q :: r2) p = none := rem_none (rem_spec e2) e1
    rw [rem_n (by rw [tch_cl]; exact h')] at e3
    rw [pn e1, ps e2, pn (Option.map_eq_none_iff.mp e3)]
    exact ps (by rw [rem_n h, e2]; rfl)
  cases e1 : rem r p with
  | none =>
    cases e2 : rem r q with
    | none =>
      rw [pn e1, pn e2, pn (by rw [rem_n h, e2]; rfl), pn (by rw [rem_n h', e1]; rfl)]
      exact .swap r h'
    | some r2 => rw [mix h e1 e2]; exact Cm.refl _
  | some r1 =>
    cases e2 : rem r q with
    | none => rw [mix h' e2 e1]; exact Cm.refl _
    | some r2 =>
      obtain ⟨w, hw, hc⟩ := rem_some (rem_spec e1) e2
      rw [rem_n (by rw [tch_cl]; exact h)] at hw
      obtain ⟨s, hs, rfl⟩ := Option.map_eq_some_iff.mp hw
      rw [ps e1, ps e2, ps hs]
      have e3 : psh (ctr p :: s) p = s := ps (by rw [rem_t (by rw [tch_cl]; exact tch_self p), if_pos rfl])
      have := psh_cm p hc
      rw [e3] at this
      exact this.symm
def act (w : List Pc) (r : List Pc) : List Pc := w.foldl psh r
def Fw (w : List Pc) : List Pc := act w []
theorem act_app (u v r : List Pc) : act (u ++ v) r = act v (act u r) := List.foldl_append ..
theorem act_cm : ∀ (w : List Pc) {r s : List Pc}, Cm r s → Cm (act w r) (act w s)
  | [], _, _, h => h
  | p :: w, _, _, h => act_cm w (psh_cm p h)
theorem act_rd : ∀ (w : List Pc) {r : List Pc}, Rd r → Rd (act w r)
  | [], _, h => h
  | _ :: w, _, h => act_rd w h.psh
theorem act_sw {u v : List Pc} (h : Cm u v) : ∀ r, Cm (act u r) (act v r) := by
  induction h with
  | nil => exact fun r => Cm.refl _
  | cons a _ ih => exact fun r => ih (psh r a)
  | swap u h => exact fun r => act_cm u (psh_comm h r)
  | trans _ _ i1 i2 => exact fun r => .trans (i1 r) (i2 r)
theorem Fw_app (u v : List Pc) : Fw (u ++ v) = act v (Fw u) := act_app ..
theorem Fw_rd (u : List Pc) : Rd (Fw u) := act_rd u (r := []) trivial
theorem list_rev_ind {P : List Pc → Prop} (h0 : P []) (h1 : ∀ u p, P u → P (u ++ [p])) (u : List Pc) : P u := by
  have : ∀ v : List Pc, P v.reverse := fun v => by
    induction v with
    | nil => exact h0
    | cons p v ih => rw [List.reverse_cons]; exact h1 _ _ ih
  have := this u.reverse
  rw [List.reverse_reverse] at this
  exact this
theorem act_Fw {r : List Pc} (hr : Rd r) (w : List Pc) : Cm (act (Fw w).reverse r) (act w r) := by
  refine list_rev_ind (P := fun w => Cm (act (Fw w).reverse r) (act w r)) (Cm.refl _) (fun w p ih => ?_) w
  rw [Fw_app, act_app w [p] r]
  show Cm (act (psh (Fw w) p).reverse r) (psh (act w r) p)
  cases e : rem (Fw w) p with
  | none =>
    have e1 : psh (Fw w) p = p :: Fw w := by unfold psh; rw [e]
    rw [e1, List.reverse_cons, act_app]
    exact psh_cm p ih
  | some s =>
    have e1 : psh (Fw w) p = s := by unfold psh; rw [e]
    rw [e1]
    have h1 := act_sw (rem_spec e).rev r
    rw [List.reverse_cons, act_app] at h1
    have h2 : Cm (act w r) (psh (act s.reverse r) (ctr p)) := .trans ih.symm h1
    have h3 := psh_psh (ctr p) (act_rd s.reverse hr)
    rw [ctr_ctr] at h3
    exact .trans h3.symm (psh_cm p h2.symm)
/-- the same group element -/
def Qq (u v : List Pc) : Prop := Cm (Fw u) (Fw v)
theorem Qq.refl (u : List Pc) : Qq u u := Cm.refl _
theorem Qq.symm {u v : List Pc} (h : Qq u v) : Qq v u := Cm.symm h
theorem Qq.trans {u v w : List Pc} (h : Qq u v) (g : Qq v w) : Qq u w := Cm.trans h g
theorem Qq.app {u v x y : List Pc} (h : Qq u x) (g : Qq v y) : Qq (u ++ v) (x ++ y) := by
  unfold Qq
  rw [Fw_app, Fw_app]
  refine .trans (act_cm v h) ?_
  have rx := Fw_rd x
  exact .trans (act_Fw rx v).symm (.trans (act_sw (Cm.rev g) _) (act_Fw rx y))
theorem Qq.nil_iff {u : List Pc} : Qq u [] ↔ My.Fw u = [] := by
  constructor
  · intro h
    have := Cm.len h
    exact List.length_eq_zero_iff.mp this
  · intro h
    show Cm (My.Fw u) (My.Fw [])
    rw [h]; exact Cm.refl _
section
variable {α : Type} {le : α → α → Bool}
structure Ord (le : α → α → Bool) : Prop where
  tr : ∀ a b c, le a b = true → le b c = true → le a c = true
  tt : ∀ a b, (le a b || le b a) = true
  an : ∀ a b, le a b = true → le b a = true → a = b
theorem srt_uniq (o : Ord le) {u v : List α} (hu : u.Pairwise fun a b => le a b = true) (hv : v.Pairwise fun a b => le a b = true) (h : u.Perm v) : u = v := by
  induction u generalizing v with
  | nil => exact (List.nil_perm.mp h).symm
  | cons a u ih =>
    cases v with
    | nil => exact absurd h.length_eq (by simp)
    | cons b v =>
      have pu := List.pairwise_cons.mp hu
      have pv := List.pairwise_cons.mp hv
      have e : a = b := by
        rcases List.mem_cons.mp (h.mem_iff.mp List.mem_cons_self) with e | e
        · exact e
        · rcases List.mem_cons.mp (h.mem_iff.mpr List.mem_cons_self) with g | g
          · exact g.symm
          · exact o.an _ _ (pu.1 _ g) (pv.1 _ e)
      subst e
      rw [ih pu.2 pv.2 (List.Perm.cons_inv h)]
theorem srt_pw (o : Ord le) (u : List α) : (u.mergeSort le).Pairwise fun a b => le a b = true := List.pairwise_mergeSort o.tr o.tt u
theorem srt_snoc (o : Ord le) (u : List α) (z : α) : ∃ s1 s2, (u ++ [z]).mergeSort le = s1 ++ z :: s2 ∧ u.mergeSort le = s1 ++ s2 ∧ ∀ y ∈ s2, le z y = true := by
  have hz : z ∈ (u ++ [z]).mergeSort le := List.mem_mergeSort.mpr (by simp)
  obtain ⟨s1, s2, e⟩ := List.append_of_mem hz
  have pw := srt_pw o (u ++ [z])
  rw [e] at pw
  have pm : (s1 ++ z :: s2).Perm (u ++ [z]) := e ▸ List.mergeSort_perm (u ++ [z]) le
  have pa := List.pairwise_append.mp pw
  refine ⟨s1, s2, e, ?_, (List.pairwise_cons.mp pa.2.1).1⟩
  refine srt_uniq o (srt_pw o u) ?_ ?_
  · exact List.pairwise_append.mpr ⟨pa.1, (List.pairwise_cons.mp pa.2.1).2, fun a ha b hb => pa.2.2 a ha b (List.mem_cons_of_mem _ hb)⟩
  · have h1 : (z :: (s1 ++ s2)).Perm (z :: u) := (List.perm_middle.symm.trans pm).trans (List.perm_append_comm (l₁ := u) (l₂ := [z]))
    exact (List.mergeSort_perm u le).trans (List.Perm.cons_inv h1).symm
end
def bz (b : Bool) : Int := if b = true then 1 else 0
theorem bz_inj {a b : Bool} (h : bz a = bz b) : a = b := by
  cases a <;> cases b <;> first | rfl | (exact absurd h (by decide))
def leP (a b : Pc) : Bool := decide (a.1 < b.1 ∨ a.1 = b.1 ∧ (a.2.1 < b.2.1 ∨ a.2.1 = b.2.1 ∧ (bz a.2.2.1 < bz b.2.2.1 ∨ bz a.2.2.1 = bz b.2.2.1 ∧ bz a.2.2.2 ≤ bz b.2.2.2)))
abbrev Lp := Int × Pc
def leL (x y : Lp) : Bool := decide (x.1 < y.1 ∨ x.1 = y.1 ∧ leP x.2 y.2 = true)
theorem ordP : Ord leP where
  tr := fun a b c h g => by
    unfold leP at *
    rw [decide_eq_true_eq] at *
    omega
  tt := fun a b => by
    unfold leP
    rw [Bool.or_eq_true, decide_eq_true_eq, decide_eq_true_eq]
    omega
  an := fun a b h g => by
    unfold leP at *
    rw [decide_eq_true_eq] at *
    obtain ⟨a1, a2, a3, a4⟩ := a
    obtain ⟨b1, b2, b3, b4⟩ := b
    dsimp only at h g
    have e1 : a1 = b1 := by omega
    have e2 : a2 = b2 := by omega
    have e3 : a3 = b3 := bz_inj (by omega)
    have e4 : a4 = b4 := bz_inj (by omega)
    rw [e1, e2, e3, e4]
theorem ordL : Ord leL where
  tr := fun a b c h g => by
    unfold leL at *
    rw [decide_eq_true_eq] at *
    have := ordP.tr a.2 b.2 c.2
    rcases h with h | ⟨h1, h2⟩
    · exact .inl (by rcases g with g | g <;> omega)
    · rcases g with g | ⟨g1, g2⟩
      · exact .inl (by omega)
      · exact .inr ⟨by omega, this h2 g2⟩
  tt := fun a b => by
    unfold leL
    rw [Bool.or_eq_true, decide_eq_true_eq, decide_eq_true_eq]
    have := Bool.or_eq_true_iff.mp (ordP.tt a.2 b.2)
    rcases Int.lt_trichotomy a.1 b.1 with h | h | h
    · exact .inl (.inl h)
    · rcases this with g | g
      · exact .inl (.inr ⟨h, g⟩)
      · exact .inr (.inr ⟨h.symm, g⟩)
    · exact .inr (.inl h)
  an := fun a b h g => by
    unfold leL at *
    rw [decide_eq_true_eq] at *
    obtain ⟨a1, a2⟩ := a
    obtain ⟨b1, b2⟩ := b
    dsimp only at h g
    rcases h with h | ⟨h1, h2⟩
    · rcases g with g | ⟨g1, _⟩ <;> omega
    · rcases g with g | ⟨_, g2⟩
      · omega
      · rw [h1, ordP.an _ _ h2 g2]
/-- the level of a piece behind others -/
def mxl (acc : List Lp) (p : Pc) : Int := ((acc.filter fun z => tch z.2 p).map fun z => z.1 + 1).foldl max 0
def lev : List Lp → List Pc → List Lp
  | acc, [] => acc
  | acc, p :: u => lev (acc ++ [(mxl acc p, p)]) u
theorem fmx_le : ∀ {l : List Int} {a x : Int}, x = a ∨ x ∈ l → x ≤ l.foldl max a
  | [], a, x, h => by
    rcases h with h | h
    · rw [h]; exact Int.le_refl _
    · cases h
  | b :: l, a, x, h => by
    show x ≤ l.foldl max (max a b)
    rcases h with h | h
    · exact Int.le_trans (by rw [h]; exact Int.le_max_left ..) (fmx_le (.inl rfl))
    · rcases List.mem_cons.mp h with h | h
      · exact Int.le_trans (by rw [h]; exact Int.le_max_right ..) (fmx_le (.inl rfl))
      · exact fmx_le (.inr h)
theorem fmx_mem : ∀ {l : List Int} {a : Int}, l.foldl max a = a ∨ l.foldl max a ∈ l
  | [], a => .inl rfl
  | b :: l, a => by
    show l.foldl max (max a b) = a ∨ l.foldl max (max a b) ∈ b :: l
    rcases fmx_mem (l := l) (a := max a b) with h | h
    · rw [h]
      by_cases z : b ≤ a
      · exact .inl (Int.max_eq_left z)
      · exact .inr (by rw [Int.max_eq_right (by omega)]; exact List.mem_cons_self)
    · exact .inr (List.mem_cons_of_mem _ h)
theorem mxl_ge {acc : List Lp} {z : Lp} {p : Pc} (hz : z ∈ acc) (t : tch z.2 p = true) : z.1 + 1 ≤ mxl acc p :=
  fmx_le (.inr (List.mem_map_of_mem (List.mem_filter.mpr ⟨hz, t⟩)))
theorem lev_app : ∀ (u v : List Pc) (acc : List Lp), lev acc (u ++ v) = lev (lev acc u) v
  | [], _, _ => rfl
  | _ :: u, v, _ => lev_app u v _
theorem lev_snd : ∀ (u : List Pc) (acc : List Lp), (lev acc u).map (·.2) = acc.map (·.2) ++ u
  | [], _ => (List.append_nil _).symm
  | p :: u, acc => by
    rw [lev, lev_snd u, List.map_append, List.append_assoc]
    rfl
theorem lev_len (u : List Pc) (acc : List Lp) : (lev acc u).length = acc.length + u.length := by
  have := congrArg List.length (lev_snd u acc)
  simpa using this
/-- pieces by levels -/
def nf (w : List Pc) : List Pc := ((lev [] w).mergeSort leL).map (·.2)
theorem cm_over {p : Pc} : ∀ {s : List Pc} (_ : ∀ q ∈ s, tch q p = false), Cm (p :: s) (s ++ [p])
  | [], _ => Cm.refl _
  | q :: s, h => .trans (.swap s (by rw [tch_symm]; exact h q List.mem_cons_self)) (.cons q (cm_over fun z hz => h z (List.mem_cons_of_mem _ hz)))
theorem nf_nil : nf [] = [] := by simp [nf, lev]
theorem cm_nf (w : List Pc) : Cm (nf w) w := by
  refine list_rev_ind (P := fun w => Cm (nf w) w) (by rw [nf_nil]; exact .nil) (fun w p ih => ?_) w
  unfold nf
  rw [lev_app]
  show Cm (((lev [] w ++ [(mxl (lev [] w) p, p)]).mergeSort leL).map (·.2)) (w ++ [p])
  obtain ⟨s1, s2, e1, e2, h⟩ := srt_snoc ordL (lev [] w) (mxl (lev [] w) p, p)
  rw [e1]
  unfold nf at ih
  rw [e2] at ih
  have hs : ∀ q ∈ s2.map (·.2), tch q p = false := fun q hq => by
    obtain ⟨z, hz, rfl⟩ := List.mem_map.mp hq
    have h1 := h z hz
    have hm : z ∈ lev [] w := List.mem_mergeSort.mp (e2 ▸ List.mem_append_right _ hz)
    cases t : tch z.2 p with
    | false => rfl
    | true =>
      have h2 := mxl_ge hm t
      unfold leL at h1
      rw [decide_eq_true_eq] at h1
      dsimp only at h1
      omega
  rw [List.map_append, List.map_cons]
  have h3 : Cm (s1.map (·.2) ++ p :: s2.map (·.2)) (s1.map (·.2) ++ (s2.map (·.2) ++ [p])) := Cm.left (cm_over hs) _
  refine .trans h3 ?_
  rw [← List.append_assoc, ← List.map_append]
  exact ih.right [p]
/-- the one list of what is left -/
def Nn (u : List Pc) : List Pc := nf (Fw u).reverse
theorem Nn_len (u : List Pc) : (Nn u).length = (Fw u).length := by
  have := (cm_nf (Fw u).reverse).len
  rw [List.length_reverse] at this
  exact this
theorem Nn_nil {u : List Pc} : Nn u = [] ↔ Qq u [] := by
  rw [Qq.nil_iff]
  have := Nn_len u
  constructor
  · intro h; rw [h] at this; exact List.length_eq_zero_iff.mp this.symm
  · intro h; rw [h] at this; exact List.length_eq_zero_iff.mp this
theorem rem_len : ∀ {r r' : List Pc} {p : Pc}, rem r p = some r' → r.length = r'.length + 1 := fun h => (rem_spec h).len
theorem Fw_len (u : List Pc) : (Fw u).length ≤ u.length ∧ ((Fw u).length = u.length → Fw u = u.reverse) := by
  refine list_rev_ind (P := fun u => (Fw u).length ≤ u.length ∧ ((Fw u).length = u.length → Fw u = u.reverse)) ⟨Nat.le_refl _, fun _ => rfl⟩ (fun u p ih => ?_) u
  rw [Fw_app]
  show (psh (Fw u) p).length ≤ _ ∧ ((psh (Fw u) p).length = _ → psh (Fw u) p = _)
  rw [List.length_append, List.reverse_append]
  show _ ≤ u.length + 1 ∧ (_ = u.length + 1 → _ = p :: u.reverse)
  cases e : rem (Fw u) p with
  | none =>
    have e1 : psh (Fw u) p = p :: Fw u := by unfold psh; rw [e]
    rw [e1, List.length_cons]
    exact ⟨by omega, fun h => by rw [ih.2 (by omega)]⟩
  | some s =>
    have e1 : psh (Fw u) p = s := by unfold psh; rw [e]
    have := rem_len e
    rw [e1]
    exact ⟨by omega, fun h => by omega⟩
/-- a list so many times -/
def rp (k : Nat) (u : List Pc) : List Pc := (List.replicate k u).flatten
theorem forD_c {g : DG} {tb : DTS} {W : DEnds} {d : D} {ds : List D} {δ : DS} : forD g tb W (d :: ds) δ = g d δ fun δ' => tb { W with nx := forD g tb W ds, ct := forD g tb W ds, bk := W.nx } δ' := propext Iff.rfl
theorem forD_n {g : DG} {tb : DTS} {W : DEnds} {δ : DS} : forD g tb W [] δ = W.nx δ := propext Iff.rfl
theorem zS_ii {k : Int} : isi "int" (.int k) = true := by rfl
theorem zS_bi {k : Int} : isi "bool" (.int k) = false := by rfl
theorem zS_bb {k : Bool} : isi "bool" (.bl k) = true := by rfl
theorem zS_tt {xs : List D} : isi "tuple" (.tup xs) = true := by rfl
theorem zS_ll {xs : List D} : isi2 "list" "tuple" (.lst xs) = true := by rfl
theorem zS_lt {xs : List D} : isi2 "list" "tuple" (.tup xs) = true := by rfl
theorem zS_lk {xs : List D} : isi2 "list" "tuple" (.ktup xs) = true := by rfl
def pcD (p : Pc) : D := .tup [.int p.1, .int p.2.1, .bl p.2.2.1, .bl p.2.2.2]
def lpD (z : Lp) : D := .tup [.int z.1, pcD z.2]
def lD (u : List Pc) : D := .lst (u.map pcD)
def hpD (A : List Pc) : D := .obj 5 [lD A]
structure Okp (p : Pc) : Prop where
  i0 : 0 ≤ p.1
  i1 : (D.int p.1).fine = true
  j0 : 0 ≤ p.2.1
  j1 : (D.int p.2.1).fine = true
def Okl (u : List Pc) : Prop := ∀ p ∈ u, Okp p
theorem int_fine {x : Int} (h0 : 0 ≤ x) (h1 : x ≤ 10 ^ 40) : (D.int x).fine = true := by
  have : x.natAbs.log2 < 1920 := by
    by_cases z : x.natAbs = 0
    · rw [z]; decide
    · exact (Nat.log2_lt z).mpr (Nat.lt_of_le_of_lt (show x.natAbs ≤ 10 ^ 40 by omega) (Nat.lt_of_lt_of_le (show 10 ^ 40 < 2 ^ 140 by decide) (Nat.pow_le_pow_right (by decide) (by decide))))
  exact decide_eq_true this
theorem pc_fine {p : Pc} (h : Okp p) : (pcD p).fine = true ∧ (pcD p).dep ≤ 1 := by
  have a := h.i1
  have b := h.j1
  refine ⟨?_, ?_⟩
  · simp only [pcD, D.fine, fineL, Bool.and_true] at a b ⊢
    simp only [a, b, Bool.and_self]
  · simp [pcD, D.dep, depL]
theorem pc_pl {p : Pc} (h : Okp p) : DL.plain (pcD p) = true := by
  unfold DL.plain
  rw [(pc_fine h).1, decide_eq_true (by have := (pc_fine h).2; omega)]
  rfl
theorem lp_pl {z : Lp} (h : Okp z.2) (h0 : 0 ≤ z.1) (h1 : z.1 ≤ 100000) : DL.plain (lpD z) = true := by
  have a := int_fine h0 (by omega)
  have b := pc_fine h
  unfold DL.plain
  rw [Bool.and_eq_true, decide_eq_true_eq]
  refine ⟨?_, ?_⟩
  · simp only [lpD, D.fine, fineL, Bool.and_true] at a ⊢
    simp only [a, b.1, Bool.and_self]
  · simp only [lpD, D.dep, depL]
    omega
theorem pl_lst {l : List D} {k : Nat} (h : ∀ d ∈ l, d.fine = true ∧ d.dep ≤ k) (hk : k ≤ 60) : DL.plain (.lst l) = true := by
  have key : fineL l = true ∧ depL l ≤ k := by
    induction l with
    | nil => exact ⟨rfl, Nat.zero_le _⟩
    | cons d l ih =>
      have h1 := h d List.mem_cons_self
      have h2 := ih fun x hx => h x (List.mem_cons_of_mem _ hx)
      refine ⟨?_, ?_⟩
      · simp [fineL, h1.1, h2.1]
      · simp only [depL]; omega
  unfold DL.plain
  simp [D.fine, D.dep, key.1]
  omega
theorem lD_pl {u : List Pc} (h : Okl u) : DL.plain (lD u) = true := pl_lst (k := 1) (fun d hd => by
  obtain ⟨p, hp, rfl⟩ := List.mem_map.mp hd
  exact pc_fine (h p hp)) (by decide)
theorem pc_eqb (x y : Pc) : eqb (pcD x) (pcD y) = decide (x = y) := by
  obtain ⟨a, b, c, d⟩ := x
  obtain ⟨e, f, g, h⟩ := y
  simp only [eqb, pcD, D.py, pyL, PyData.eqv, PyData.eqvAll]
  rw [Bool.eq_iff_iff]
  simp [Prod.ext_iff]
theorem eqb_cons (x y : D) (xs ys : List D) : eqb (.lst (x :: xs)) (.lst (y :: ys)) = (eqb x y && eqb (.lst xs) (.lst ys)) := by
  simp only [eqb, D.py, pyL, PyData.eqv, PyData.eqvAll]
theorem eqb_nil : eqb (.lst []) (.lst []) = true := by rfl
theorem eqb_nc (x : D) (xs : List D) : eqb (.lst (x :: xs)) (.lst []) = false := by
  simp only [eqb, D.py, pyL, PyData.eqv, PyData.eqvAll]
theorem eqb_cn (x : D) (xs : List D) : eqb (.lst []) (.lst (x :: xs)) = false := by
  simp only [eqb, D.py, pyL, PyData.eqv, PyData.eqvAll]
theorem eqb_map {α : Type} [DecidableEq α] {g : α → D} (hg : ∀ a b, eqb (g a) (g b) = decide (a = b)) : ∀ xs ys : List α, eqb (.lst (xs.map g)) (.lst (ys.map g)) = decide (xs = ys)
  | [], [] => by rw [List.map_nil, eqb_nil]; exact (decide_eq_true rfl).symm
  | [], y :: ys => by rw [List.map_nil, List.map_cons, eqb_cn]; exact (decide_eq_false (by simp)).symm
  | x :: xs, [] => by rw [List.map_nil, List.map_cons, eqb_nc]; exact (decide_eq_false (by simp)).symm
  | x :: xs, y :: ys => by
    rw [List.map_cons, List.map_cons, eqb_cons, hg, eqb_map hg xs ys, Bool.eq_iff_iff]
    simp
theorem lD_eqb (u v : List Pc) : eqb (lD u) (lD v) = decide (u = v) := eqb_map pc_eqb u v
theorem lt_i {x y : Int} {xs ys : List PyData} : PySem.W.dataLt (.tuple (.int x :: xs)) (.tuple (.int y :: ys)) = decide (x < y ∨ x = y ∧ PySem.W.dataLt (.tuple xs) (.tuple ys) = true) := by
  rw [lt_tup_cons (by rfl)]
  by_cases h : x = y
  · subst h
    rw [if_pos (by simp [PyData.eqv])]
    simp
  · rw [if_neg (by simp [PyData.eqv, h]), PySem.W.dataLt_int]
    simp [h]
theorem lt_b {x y : Bool} {xs ys : List PyData} : PySem.W.dataLt (.tuple (.bool x :: xs)) (.tuple (.bool y :: ys)) = decide (bz x < bz y ∨ bz x = bz y ∧ PySem.W.dataLt (.tuple xs) (.tuple ys) = true) := by
  rw [lt_tup_cons (by rfl)]
  by_cases h : x = y
  · subst h
    rw [if_pos (by simp [PyData.eqv])]
    simp
  · rw [if_neg (by simp [PyData.eqv, h]), PySem.W.dataLt_bool]
    cases x <;> cases y <;> first | exact absurd rfl h | rfl
theorem lt_pc (a b : Pc) : PySem.W.dataLt (pcD a).py (pcD b).py = decide (a.1 < b.1 ∨ a.1 = b.1 ∧ (a.2.1 < b.2.1 ∨ a.2.1 = b.2.1 ∧ (bz a.2.2.1 < bz b.2.2.1 ∨ bz a.2.2.1 = bz b.2.2.1 ∧ bz a.2.2.2 < bz b.2.2.2))) := by
  show PySem.W.dataLt (.tuple [.int a.1, .int a.2.1, .bool a.2.2.1, .bool a.2.2.2]) (.tuple [.int b.1, .int b.2.1, .bool b.2.2.1, .bool b.2.2.2]) = _
  rw [lt_i, lt_i, lt_b, lt_b, lt_tup_nil]
  simp only [decide_eq_true_eq, Bool.false_eq_true, and_false, or_false]
theorem dle_p (a b : Pc) : dleD (pcD a) (pcD b) = leP a b := by
  rw [dleD_eq, lt_pc]
  unfold leP
  rw [Bool.eq_iff_iff]
  simp only [Bool.not_eq_true', decide_eq_false_iff_not, decide_eq_true_eq]
  omega
theorem dle_l (a b : Lp) : dleD (lpD a) (lpD b) = leL a b := by
  rw [dleD_eq]
  show (!PySem.W.dataLt (.tuple [.int b.1, (pcD b.2).py]) (.tuple [.int a.1, (pcD a.2).py])) = _
  rw [lt_i, lt_tup_cons (by rfl), lt_tup_nil]
  have e : PyData.eqv (pcD b.2).py (pcD a.2).py = decide (b.2 = a.2) := pc_eqb b.2 a.2
  have g : (!PySem.W.dataLt (pcD b.2).py (pcD a.2).py) = leP a.2 b.2 := dle_p a.2 b.2
  unfold leL
  rw [← g, e, Bool.eq_iff_iff]
  have s : PySem.W.dataLt (pcD a.2).py (pcD a.2).py = false := by rw [lt_pc]; simp
  simp only [Bool.not_eq_true', decide_eq_false_iff_not, decide_eq_true_eq]
  by_cases h : b.2 = a.2
  · simp only [h, s, if_true, Bool.false_eq_true, and_false, or_false, and_true]
    omega
  · simp only [h, if_false]
    cases PySem.W.dataLt (pcD b.2).py (pcD a.2).py <;> simp <;> omega
theorem srt_lps {u : List Lp} (h : ∀ z ∈ u, Okp z.2 ∧ 0 ≤ z.1 ∧ z.1 ≤ 100000) : SrtOk (u.map lpD) := by
  refine ⟨fun d hd => ?_, ?_, ?_⟩
  · obtain ⟨z, hz, rfl⟩ := List.mem_map.mp hd
    exact lp_pl (h z hz).1 (h z hz).2.1 (h z hz).2.2
  · rw [List.map_map]
    exact PySem.W.AllAlike.of fun a b => by rfl
  · rw [List.map_map]
    exact PySem.W.Sortable.tuples fun a => ⟨_, _, rfl⟩
theorem sort_l (u : List Lp) : sortD (u.map lpD) = (u.mergeSort leL).map lpD := sort_map lpD leL fun a _ b _ => dle_l a b
theorem integer_ok {x : Int} {Q : D → Prop} (hq : Q (.bl true)) : S_is_integer [.int x] Q := by
  refine ⟨rfl, ?_⟩
  simp only [t_is_integer, ↓zHd0, zHp0, ↓zGd0, ↓zGd1, ↓zGd2, ↓zGd3, ↓zGd4, zGp0, startD, ↓List.map_cons, ↓List.map_nil, ↓List.length_cons, ↓List.length_nil, Nat.reduceAdd, Nat.reduceSub, Nat.sub_self, List.replicate, ↓List.cons_append, ↓List.nil_append, List.append_nil, ↓List.getElem?_cons_zero, ↓List.getElem?_cons_succ, ↓List.set_cons_zero, ↓List.set_cons_succ, wipeD, Bool.not_true, Bool.not_false, decide_true, decide_false, beq_self_eq_true, true_and, and_true, Nat.reduceLeDiff, toDs, toDk, toDs_sh, ↓zS_ii, ↓zS_bi, ↓zS_bb, ↓zS_tt, ↓zS_ll, ↓zS_lt, ↓zS_lk]
  exact hq
theorem count_ok {x : Int} {Q : D → Prop} (h : 0 ≤ x) (hq : Q (.bl true)) : S_is_count [.int x] Q := by
  refine ⟨rfl, ?_⟩
  simp only [t_is_count, ↓zHd0, zHp0, ↓zGd0, ↓zGd1, ↓zGd2, ↓zGd3, ↓zGd4, zGp0, startD, ↓List.map_cons, ↓List.map_nil, ↓List.length_cons, ↓List.length_nil, Nat.reduceAdd, Nat.reduceSub, Nat.sub_self, List.replicate, ↓List.cons_append, ↓List.nil_append, List.append_nil, ↓List.getElem?_cons_zero, ↓List.getElem?_cons_succ, ↓List.set_cons_zero, ↓List.set_cons_succ, wipeD, Bool.not_true, Bool.not_false, decide_true, decide_false, beq_self_eq_true, true_and, and_true, Nat.reduceLeDiff, toDs, toDk, toDs_sh, ↓zS_ii, ↓zS_bi, ↓zS_bb, ↓zS_tt, ↓zS_ll, ↓zS_lt, ↓zS_lk]
  refine integer_ok ?_
  simp only [↓zHd0, zHp0, ↓zGd0, ↓zGd1, ↓zGd2, ↓zGd3, ↓zGd4, zGp0, startD, ↓List.map_cons, ↓List.map_nil, ↓List.length_cons, ↓List.length_nil, Nat.reduceAdd, Nat.reduceSub, Nat.sub_self, List.replicate, ↓List.cons_append, ↓List.nil_append, List.append_nil, ↓List.getElem?_cons_zero, ↓List.getElem?_cons_succ, ↓List.set_cons_zero, ↓List.set_cons_succ, wipeD, Bool.not_true, Bool.not_false, decide_true, decide_false, beq_self_eq_true, true_and, and_true, Nat.reduceLeDiff, toDs, toDk, toDs_sh, ↓zS_ii, ↓zS_bi, ↓zS_bb, ↓zS_tt, ↓zS_ll, ↓zS_lt, ↓zS_lk]
  rw [decide_eq_true (by omega)]
  exact hq
theorem piece_ok {p : Pc} {Q : D → Prop} (h : Okp p) (hq : Q (.bl true)) : S_is_piece [pcD p] Q := by
  refine ⟨rfl, ?_⟩
  unfold pcD
  simp only [t_is_piece, ↓zHd0, zHp0, ↓zGd0, ↓zGd1, ↓zGd2, ↓zGd3, ↓zGd4, zGp0, startD, ↓List.map_cons, ↓List.map_nil, ↓List.length_cons, ↓List.length_nil, Nat.reduceAdd, Nat.reduceSub, Nat.sub_self, List.replicate, ↓List.cons_append, ↓List.nil_append, List.append_nil, ↓List.getElem?_cons_zero, ↓List.getElem?_cons_succ, ↓List.set_cons_zero, ↓List.set_cons_succ, wipeD, Bool.not_true, Bool.not_false, decide_true, decide_false, beq_self_eq_true, true_and, and_true, Nat.reduceLeDiff, toDs, toDk, toDs_sh, ↓zS_ii, ↓zS_bi, ↓zS_bb, ↓zS_tt, ↓zS_ll, ↓zS_lt, ↓zS_lk]
  refine count_ok h.i0 ?_
  simp only [↓zHd0, zHp0, ↓zGd0, ↓zGd1, ↓zGd2, ↓zGd3, ↓zGd4, zGp0, startD, ↓List.map_cons, ↓List.map_nil, ↓List.length_cons, ↓List.length_nil, Nat.reduceAdd, Nat.reduceSub, Nat.sub_self, List.replicate, ↓List.cons_append, ↓List.nil_append, List.append_nil, ↓List.getElem?_cons_zero, ↓List.getElem?_cons_succ, ↓List.set_cons_zero, ↓List.set_cons_succ, wipeD, Bool.not_true, Bool.not_false, decide_true, decide_false, beq_self_eq_true, true_and, and_true, Nat.reduceLeDiff, toDs, toDk, toDs_sh, ↓zS_ii, ↓zS_bi, ↓zS_bb, ↓zS_tt, ↓zS_ll, ↓zS_lt, ↓zS_lk]
  refine count_ok h.j0 ?_
  simp only [↓zHd0, zHp0, ↓zGd0, ↓zGd1, ↓zGd2, ↓zGd3, ↓zGd4, zGp0, startD, ↓List.map_cons, ↓List.map_nil, ↓List.length_cons, ↓List.length_nil, Nat.reduceAdd, Nat.reduceSub, Nat.sub_self, List.replicate, ↓List.cons_append, ↓List.nil_append, List.append_nil, ↓List.getElem?_cons_zero, ↓List.getElem?_cons_succ, ↓List.set_cons_zero, ↓List.set_cons_succ, wipeD, Bool.not_true, Bool.not_false, decide_true, decide_false, beq_self_eq_true, true_and, and_true, Nat.reduceLeDiff, toDs, toDk, toDs_sh, ↓zS_ii, ↓zS_bi, ↓zS_bb, ↓zS_tt, ↓zS_ll, ↓zS_lt, ↓zS_lk]
  exact hq
/-- what is a sequence of pieces -/
structure Sqd (d : D) (u : List Pc) : Prop where
  it : ∀ QL : List D → Prop, QL (u.map pcD) → seqQ d QL
  is : ∀ Q : D → Prop, Q (.bl true) → isi2A "list" "tuple" [5] d Q
theorem sqd_l (u : List Pc) : Sqd (lD u) u := ⟨fun _ h => h, fun _ h => ⟨rfl, h⟩⟩
theorem sqd_t (u : List Pc) : Sqd (.tup (u.map pcD)) u := ⟨fun _ h => h, fun _ h => ⟨rfl, h⟩⟩
theorem all_true {n : Nat} {Q : D → Prop} {α : Type} {xs : List α} (hq : Q (.bl true)) : cAll [.lst (xs.map fun _ => D.bl true)] Q := by
  show (match blsOf (xs.map fun _ => D.bl true) with | some bs => Q (.bl (bs.all id)) | none => False)
  have e : ∀ ys : List α, blsOf (ys.map fun _ => D.bl true) = some (ys.map fun _ => true) := fun ys => by
    induction ys with
    | nil => rfl
    | cons y ys ih =>
      rw [List.map_cons, List.map_cons]
      simp only [blsOf, ih]
      try rfl
  rw [e]
  have : (xs.map fun _ => true).all id = true := List.all_eq_true.mpr fun x hx => by obtain ⟨_, _, rfl⟩ := List.mem_map.mp hx; rfl
  show Q (.bl ((xs.map fun _ => true).all id))
  rw [this]
  exact hq
theorem pl_sz {α : Type} {f : α → D} {u : List α} (h : u.length ≤ 100000) : (u.map f).length ≤ sizeLine := by rw [List.length_map, sizeLine_eq]; omega
theorem are_ok {d : D} {u : List Pc} {Q : D → Prop} (hd : Sqd d u) (h : Okl u) (hl : u.length ≤ 100000) (hq : Q (.bl true)) : S_are_pieces [d] Q := by
  refine ⟨rfl, ?_⟩
  simp only [t_are_pieces, ↓zHd0, zHp0, ↓zGd0, ↓zGd1, ↓zGd2, ↓zGd3, ↓zGd4, zGp0, startD, ↓List.map_cons, ↓List.map_nil, ↓List.length_cons, ↓List.length_nil, Nat.reduceAdd, Nat.reduceSub, Nat.sub_self, List.replicate, ↓List.cons_append, ↓List.nil_append, List.append_nil, ↓List.getElem?_cons_zero, ↓List.getElem?_cons_succ, ↓List.set_cons_zero, ↓List.set_cons_succ, wipeD, Bool.not_true, Bool.not_false, decide_true, decide_false, beq_self_eq_true, true_and, and_true, Nat.reduceLeDiff, toDs, toDk, toDs_sh, ↓zS_ii, ↓zS_bi, ↓zS_bb, ↓zS_tt, ↓zS_ll, ↓zS_lt, ↓zS_lk]
  refine hd.is _ ?_
  simp only [↓zHd0, zHp0, ↓zGd0, ↓zGd1, ↓zGd2, ↓zGd3, ↓zGd4, zGp0, startD, ↓List.map_cons, ↓List.map_nil, ↓List.length_cons, ↓List.length_nil, Nat.reduceAdd, Nat.reduceSub, Nat.sub_self, List.replicate, ↓List.cons_append, ↓List.nil_append, List.append_nil, ↓List.getElem?_cons_zero, ↓List.getElem?_cons_succ, ↓List.set_cons_zero, ↓List.set_cons_succ, wipeD, Bool.not_true, Bool.not_false, decide_true, decide_false, beq_self_eq_true, true_and, and_true, Nat.reduceLeDiff, toDs, toDk, toDs_sh, ↓zS_ii, ↓zS_bi, ↓zS_bb, ↓zS_tt, ↓zS_ll, ↓zS_lt, ↓zS_lk]
  refine hd.it _ ⟨pl_sz hl, ?_⟩
  refine lc_of (α := Pc) pcD (fun _ => .bl true) u [] (fun p hp R hR => ?_) ?_
  · simp only [↓zHd0, zHp0, ↓zGd0, ↓zGd1, ↓zGd2, ↓zGd3, ↓zGd4, zGp0, startD, ↓List.map_cons, ↓List.map_nil, ↓List.length_cons, ↓List.length_nil, Nat.reduceAdd, Nat.reduceSub, Nat.sub_self, List.replicate, ↓List.cons_append, ↓List.nil_append, List.append_nil, ↓List.getElem?_cons_zero, ↓List.getElem?_cons_succ, ↓List.set_cons_zero, ↓List.set_cons_succ, wipeD, Bool.not_true, Bool.not_false, decide_true, decide_false, beq_self_eq_true, true_and, and_true, Nat.reduceLeDiff, toDs, toDk, toDs_sh, ↓zS_ii, ↓zS_bi, ↓zS_bb, ↓zS_tt, ↓zS_ll, ↓zS_lt, ↓zS_lk]
    exact piece_ok (h p hp) hR
  · exact all_true (n := 0) hq
theorem touch_ok {a b : Pc} {Q : D → Prop} (hq : Q (.bl (tch a b))) : S_touch [pcD a, pcD b] Q := by
  refine ⟨rfl, ?_⟩
  unfold pcD
  simp only [t_touch, ↓zHd0, zHp0, ↓zGd0, ↓zGd1, ↓zGd2, ↓zGd3, ↓zGd4, zGp0, startD, ↓List.map_cons, ↓List.map_nil, ↓List.length_cons, ↓List.length_nil, Nat.reduceAdd, Nat.reduceSub, Nat.sub_self, List.replicate, ↓List.cons_append, ↓List.nil_append, List.append_nil, ↓List.getElem?_cons_zero, ↓List.getElem?_cons_succ, ↓List.set_cons_zero, ↓List.set_cons_succ, wipeD, Bool.not_true, Bool.not_false, decide_true, decide_false, beq_self_eq_true, true_and, and_true, Nat.reduceLeDiff, toDs, toDk, toDs_sh, ↓zS_ii, ↓zS_bi, ↓zS_bb, ↓zS_tt, ↓zS_ll, ↓zS_lt, ↓zS_lk]
  unfold tch at hq
  by_cases h : a.1 = b.1
  · rw [decide_eq_true h] at hq ⊢
    simp only [↓zHd0, zHp0, ↓zGd0, ↓zGd1, ↓zGd2, ↓zGd3, ↓zGd4, zGp0, startD, ↓List.map_cons, ↓List.map_nil, ↓List.length_cons, ↓List.length_nil, Nat.reduceAdd, Nat.reduceSub, Nat.sub_self, List.replicate, ↓List.cons_append, ↓List.nil_append, List.append_nil, ↓List.getElem?_cons_zero, ↓List.getElem?_cons_succ, ↓List.set_cons_zero, ↓List.set_cons_succ, wipeD, Bool.not_true, Bool.not_false, decide_true, decide_false, beq_self_eq_true, true_and, and_true, Nat.reduceLeDiff, toDs, toDk, toDs_sh, ↓zS_ii, ↓zS_bi, ↓zS_bb, ↓zS_tt, ↓zS_ll, ↓zS_lt, ↓zS_lk]
    exact hq
  · rw [decide_eq_false h] at hq ⊢
    simp only [↓zHd0, zHp0, ↓zGd0, ↓zGd1, ↓zGd2, ↓zGd3, ↓zGd4, zGp0, startD, ↓List.map_cons, ↓List.map_nil, ↓List.length_cons, ↓List.length_nil, Nat.reduceAdd, Nat.reduceSub, Nat.sub_self, List.replicate, ↓List.cons_append, ↓List.nil_append, List.append_nil, ↓List.getElem?_cons_zero, ↓List.getElem?_cons_succ, ↓List.set_cons_zero, ↓List.set_cons_succ, wipeD, Bool.not_true, Bool.not_false, decide_true, decide_false, beq_self_eq_true, true_and, and_true, Nat.reduceLeDiff, toDs, toDk, toDs_sh, ↓zS_ii, ↓zS_bi, ↓zS_bb, ↓zS_tt, ↓zS_ll, ↓zS_lt, ↓zS_lk]
    exact hq
theorem lev_bd : ∀ (u : List Pc) (acc : List Lp), (∀ z ∈ acc, 0 ≤ z.1 ∧ z.1 + 1 ≤ acc.length) → ∀ z ∈ lev acc u, 0 ≤ z.1 ∧ z.1 + 1 ≤ (lev acc u).length
  | [], acc, h => h
  | p :: u, acc, h => by
    refine lev_bd u _ fun z hz => ?_
    rw [List.length_append, List.length_singleton]
    rcases List.mem_append.mp hz with hz | hz
    · have := h z hz; omega
    · rw [List.mem_singleton.mp hz]
      have h0 : 0 ≤ mxl acc p := fmx_le (.inl rfl)
      have h1 : mxl acc p ≤ acc.length := by
        rcases fmx_mem (l := (acc.filter fun z => tch z.2 p).map fun z => z.1 + 1) (a := 0) with e | e
        · unfold mxl; rw [e]; omega
        · obtain ⟨y, hy, e⟩ := List.mem_map.mp e
          have := h y (List.mem_filter.mp hy).1
          unfold mxl; rw [← e]; omega
      exact ⟨h0, by show mxl acc p + 1 ≤ _; omega⟩
theorem lev_mem {u : List Pc} {z : Lp} (h : z ∈ lev [] u) : z.2 ∈ u := by
  have := lev_snd u []
  rw [List.map_nil, List.nil_append] at this
  rw [← this]
  exact List.mem_map_of_mem h
theorem srt_lev {u : List Pc} (h : Okl u) (hl : u.length ≤ 100000) : SrtOk ((lev [] u).map lpD) := srt_lps fun z hz => by
  have a := lev_bd u [] (fun _ h => nomatch h) z hz
  rw [lev_len] at a
  rw [List.length_nil] at a
  exact ⟨h _ (lev_mem hz), a.1, by omega⟩
theorem mxl_ok {acc : List Lp} {p : Pc} {Q : D → Prop} (hq : Q (.int (mxl acc p))) : cMaxL [.lst (.int 0 :: (acc.filter fun z => tch z.2 p).map fun z => .int (z.1 + 1))] Q := by
  refine ⟨0 :: (acc.filter fun z => tch z.2 p).map fun z => z.1 + 1, ?_, by simp, fun m hm hle => ?_⟩
  · rw [List.map_cons, List.map_map]
    rfl
  · have e : m = mxl acc p := by
      unfold mxl
      have h1 : m ≤ (((acc.filter fun z => tch z.2 p).map fun z => z.1 + 1).foldl max 0) := fmx_le (List.mem_cons.mp hm)
      have h2 := hle _ (List.mem_cons.mpr (fmx_mem (l := (acc.filter fun z => tch z.2 p).map fun z => z.1 + 1) (a := 0)))
      omega
    rw [e]
    exact hq
theorem lc_fofG {β : Type} {g1 : DG} {tt : DT} {te : DE} {δ0 : DS} {Q : List D → Prop} (g h : β → D) (u : β → DS) (p : β → Bool) : ∀ (xs : List β) (acc : List D), (∀ y ∈ xs, ∀ F : DS → Prop, F (u y) → g1 (g y) δ0 F) → (∀ y ∈ xs, ∀ R : Bool → Prop, R (p y) → tt (u y) R) → (∀ y ∈ xs, p y = true → ∀ R : D → Prop, R (h y) → te (u y) R) → Q (acc ++ (xs.filter p).map h) → lcD g1 tt te δ0 Q (xs.map g) acc
  | [], acc, _, _, _, q => by
    rw [List.filter_nil, List.map_nil, List.append_nil] at q
    exact q
  | y :: xs, acc, h0, h1, h2, q => by
    show g1 (g y) δ0 fun δ' => tt δ' fun b => if b = true then te δ' fun z => lcD g1 tt te δ0 Q (xs.map g) (acc ++ [z]) else lcD g1 tt te δ0 Q (xs.map g) acc
    refine h0 y List.mem_cons_self _ (h1 y List.mem_cons_self _ ?_)
    cases hp : p y with
    | true =>
      rw [if_pos rfl]
      refine h2 y List.mem_cons_self hp _ (lc_fofG g h u p xs _ (fun z hz => h0 z (List.mem_cons_of_mem _ hz)) (fun z hz => h1 z (List.mem_cons_of_mem _ hz)) (fun z hz => h2 z (List.mem_cons_of_mem _ hz)) ?_)
      rw [List.filter_cons, if_pos hp] at q
      rw [List.append_assoc]
      exact q
    | false =>
      rw [if_neg (by decide)]
      refine lc_fofG g h u p xs _ (fun z hz => h0 z (List.mem_cons_of_mem _ hz)) (fun z hz => h1 z (List.mem_cons_of_mem _ hz)) (fun z hz => h2 z (List.mem_cons_of_mem _ hz)) ?_
      rw [List.filter_cons, if_neg (by simp [hp])] at q
      exact q
theorem lc_ofG {β : Type} {g1 : DG} {te : DE} {δ0 : DS} {Q : List D → Prop} (g h : β → D) (u : β → DS) (xs : List β) (acc : List D) (h0 : ∀ y ∈ xs, ∀ F : DS → Prop, F (u y) → g1 (g y) δ0 F) (h2 : ∀ y ∈ xs, ∀ R : D → Prop, R (h y) → te (u y) R) (q : Q (acc ++ xs.map h)) : lcD g1 dYes te δ0 Q (xs.map g) acc :=
  lc_fofG g h u (fun _ => true) xs acc h0 (fun _ _ _ r => r) (fun y hy _ => h2 y hy) (by rw [List.filter_eq_self.mpr (fun _ _ => rfl)]; exact q)
theorem wl_step {W : DEnds} {d : D} {p : Pc} {acc : List Lp} {o3 o4 o5 : Option SD} (hz : acc.length < 100000) (k : ∀ o4 o5, W.nx [some (.sh d), some (.sh (.lst ((acc ++ [(mxl acc p, p)]).map lpD))), some (.sh (pcD p)), some (.sh (.int (mxl acc p))), o4, o5]) : b_with_levels_1 W [some (.sh d), some (.sh (.lst (acc.map lpD))), some (.sh (pcD p)), o3, o4, o5] := by
  simp only [b_with_levels_1, ↓zHd0, zHp0, ↓zGd0, ↓zGd1, ↓zGd2, ↓zGd3, ↓zGd4, zGp0, startD, ↓List.map_cons, ↓List.map_nil, ↓List.length_cons, ↓List.length_nil, Nat.reduceAdd, Nat.reduceSub, Nat.sub_self, List.replicate, ↓List.cons_append, ↓List.nil_append, List.append_nil, ↓List.getElem?_cons_zero, ↓List.getElem?_cons_succ, ↓List.set_cons_zero, ↓List.set_cons_succ, wipeD, Bool.not_true, Bool.not_false, decide_true, decide_false, beq_self_eq_true, true_and, and_true, Nat.reduceLeDiff, toDs, toDk, toDs_sh, ↓zS_ii, ↓zS_bi, ↓zS_bb, ↓zS_tt, ↓zS_ll, ↓zS_lt, ↓zS_lk]
  refine ⟨pl_sz (by omega), ?_⟩
  refine lc_fofG lpD (fun z => .int (z.1 + 1)) (fun z => [some (.sh d), some (.sh (.lst (acc.map lpD))), some (.sh (pcD p)), o3, some (.sh (.int z.1)), some (.sh (pcD z.2))]) (fun z => tch z.2 p) acc [] (fun z _ F hF => ?_) (fun z _ R hR => ?_) (fun z _ _ R hR => ?_) ?_
  · unfold lpD
    simp only [↓zHd0, zHp0, ↓zGd0, ↓zGd1, ↓zGd2, ↓zGd3, ↓zGd4, zGp0, startD, ↓List.map_cons, ↓List.map_nil, ↓List.length_cons, ↓List.length_nil, Nat.reduceAdd, Nat.reduceSub, Nat.sub_self, List.replicate, ↓List.cons_append, ↓List.nil_append, List.append_nil, ↓List.getElem?_cons_zero, ↓List.getElem?_cons_succ, ↓List.set_cons_zero, ↓List.set_cons_succ, wipeD, Bool.not_true, Bool.not_false, decide_true, decide_false, beq_self_eq_true, true_and, and_true, Nat.reduceLeDiff, toDs, toDk, toDs_sh, ↓zS_ii, ↓zS_bi, ↓zS_bb, ↓zS_tt, ↓zS_ll, ↓zS_lt, ↓zS_lk]
    exact hF
  · simp only [↓zHd0, zHp0, ↓zGd0, ↓zGd1, ↓zGd2, ↓zGd3, ↓zGd4, zGp0, startD, ↓List.map_cons, ↓List.map_nil, ↓List.length_cons, ↓List.length_nil, Nat.reduceAdd, Nat.reduceSub, Nat.sub_self, List.replicate, ↓List.cons_append, ↓List.nil_append, List.append_nil, ↓List.getElem?_cons_zero, ↓List.getElem?_cons_succ, ↓List.set_cons_zero, ↓List.set_cons_succ, wipeD, Bool.not_true, Bool.not_false, decide_true, decide_false, beq_self_eq_true, true_and, and_true, Nat.reduceLeDiff, toDs, toDk, toDs_sh, ↓zS_ii, ↓zS_bi, ↓zS_bb, ↓zS_tt, ↓zS_ll, ↓zS_lt, ↓zS_lk]
    exact touch_ok hR
  · simp only [↓zHd0, zHp0, ↓zGd0, ↓zGd1, ↓zGd2, ↓zGd3, ↓zGd4, zGp0, startD, ↓List.map_cons, ↓List.map_nil, ↓List.length_cons, ↓List.length_nil, Nat.reduceAdd, Nat.reduceSub, Nat.sub_self, List.replicate, ↓List.cons_append, ↓List.nil_append, List.append_nil, ↓List.getElem?_cons_zero, ↓List.getElem?_cons_succ, ↓List.set_cons_zero, ↓List.set_cons_succ, wipeD, Bool.not_true, Bool.not_false, decide_true, decide_false, beq_self_eq_true, true_and, and_true, Nat.reduceLeDiff, toDs, toDk, toDs_sh, ↓zS_ii, ↓zS_bi, ↓zS_bb, ↓zS_tt, ↓zS_ll, ↓zS_lt, ↓zS_lk]
    exact hR
  · have hl := List.length_filter_le (fun z : Lp => tch z.2 p) acc
    rw [List.nil_append]
    refine ⟨by rw [List.length_map, sizeLine_eq]; omega, mxl_ok ⟨by rw [List.length_map, sizeLine_eq]; omega, ?_⟩⟩
    have e : (acc.map lpD) ++ [D.tup [.int (mxl acc p), pcD p]] = (acc ++ [(mxl acc p, p)]).map lpD := by
      rw [List.map_append]; rfl
    rw [e]
    exact k _ _
theorem wl_loop {W : DEnds} {d : D} : ∀ (u : List Pc) (acc : List Lp) (o2 o3 o4 o5 : Option SD), acc.length + u.length ≤ 100000 → (∀ o2 o3 o4 o5, W.nx [some (.sh d), some (.sh (.lst ((lev acc u).map lpD))), o2, o3, o4, o5]) → forD (gN 2) b_with_levels_1 W (u.map pcD) [some (.sh d), some (.sh (.lst (acc.map lpD))), o2, o3, o4, o5]
  | [], acc, o2, o3, o4, o5, _, k => by
    rw [List.map_nil, forD_n]
    exact k o2 o3 o4 o5
  | p :: u, acc, o2, o3, o4, o5, hz, k => by
    rw [List.length_cons] at hz
    rw [List.map_cons, forD_c]
    show b_with_levels_1 _ [some (.sh d), some (.sh (.lst (acc.map lpD))), some (.sh (pcD p)), o3, o4, o5]
    exact wl_step (by omega) fun o4 o5 => wl_loop u _ _ _ _ _ (by rw [List.length_append, List.length_singleton]; omega) k
theorem with_ok {u : List Pc} {Q : D → Prop} (h : Okl u) (hl : u.length ≤ 100000) (hq : Q (.lst (((lev [] u).mergeSort leL).map lpD))) : S_with_levels [lD u] Q := by
  refine ⟨rfl, ?_⟩
  unfold lD
  simp only [t_with_levels, ↓zHd0, zHp0, ↓zGd0, ↓zGd1, ↓zGd2, ↓zGd3, ↓zGd4, zGp0, startD, ↓List.map_cons, ↓List.map_nil, ↓List.length_cons, ↓List.length_nil, Nat.reduceAdd, Nat.reduceSub, Nat.sub_self, List.replicate, ↓List.cons_append, ↓List.nil_append, List.append_nil, ↓List.getElem?_cons_zero, ↓List.getElem?_cons_succ, ↓List.set_cons_zero, ↓List.set_cons_succ, wipeD, Bool.not_true, Bool.not_false, decide_true, decide_false, beq_self_eq_true, true_and, and_true, Nat.reduceLeDiff, toDs, toDk, toDs_sh, ↓zS_ii, ↓zS_bi, ↓zS_bb, ↓zS_tt, ↓zS_ll, ↓zS_lt, ↓zS_lk]
  refine wl_loop u [] _ _ _ _ (by rw [List.length_nil]; omega) fun o2 o3 o4 o5 => ?_
  simp only [↓zHd0, zHp0, ↓zGd0, ↓zGd1, ↓zGd2, ↓zGd3, ↓zGd4, zGp0, startD, ↓List.map_cons, ↓List.map_nil, ↓List.length_cons, ↓List.length_nil, Nat.reduceAdd, Nat.reduceSub, Nat.sub_self, List.replicate, ↓List.cons_append, ↓List.nil_append, List.append_nil, ↓List.getElem?_cons_zero, ↓List.getElem?_cons_succ, ↓List.set_cons_zero, ↓List.set_cons_succ, wipeD, Bool.not_true, Bool.not_false, decide_true, decide_false, beq_self_eq_true, true_and, and_true, Nat.reduceLeDiff, toDs, toDk, toDs_sh, ↓zS_ii, ↓zS_bi, ↓zS_bb, ↓zS_tt, ↓zS_ll, ↓zS_lt, ↓zS_lk]
  refine ⟨srt_lev h hl, ?_⟩
  rw [sort_l]
  exact hq
theorem zS_cut3 {a b c d : D} : cut [a, b, c, d] none (some 3) = [a, b, c] := by rfl
def pos : List Pc → Pc → Option Nat
  | [], _ => none
  | q :: r, p => if tch q p = true then (if q = ctr p then some r.length else none) else pos r p
def posD (o : Option Nat) : D := match o with
  | some m => .int m
  | none => .non
theorem pos_rem : ∀ {r : List Pc} {p : Pc}, (pos r p = none ∧ rem r p = none) ∨ ∃ m r', pos r p = some m ∧ rem r p = some r' ∧ m < r.length ∧ r'.reverse = r.reverse.take m ++ r.reverse.drop (m + 1)
  | [], p => .inl ⟨rfl, rfl⟩
  | q :: r, p => by
    by_cases h : tch q p = true
    · rw [pos, rem, if_pos h, if_pos h]
      by_cases e : q = ctr p
      · rw [if_pos e, if_pos e]
        refine .inr ⟨_, _, rfl, rfl, by simp, ?_⟩
        rw [List.reverse_cons, List.take_append_of_le_length (by simp), List.take_of_length_le (by simp), List.drop_of_length_le (by simp), List.append_nil]
      · rw [if_neg e, if_neg e]
        exact .inl ⟨rfl, rfl⟩
    · rw [pos, rem, if_neg h, if_neg h]
      rcases pos_rem (r := r) (p := p) with ⟨a, b⟩ | ⟨m, r', a, b, c, d⟩
      · rw [a, b]
        exact .inl ⟨rfl, rfl⟩
      · rw [a, b]
        refine .inr ⟨m, q :: r', rfl, rfl, by rw [List.length_cons]; omega, ?_⟩
        rw [List.reverse_cons, List.reverse_cons, d, List.take_append_of_le_length (by rw [List.length_reverse]; omega), List.drop_append_of_le_length (by rw [List.length_reverse]; omega), List.append_assoc]
theorem downs_c (lo : Int) (n : Nat) : downs lo (n + 1) = .int lo :: downs (lo - 1) n := by
  unfold downs
  rw [List.range_succ_eq_map, List.map_cons, List.map_map]
  congr 1
  · simp
  · refine List.map_congr_left fun k _ => ?_
    show D.int (lo - ((k + 1 : Nat) : Int)) = D.int (lo - 1 - k)
    congr 1
    omega
def r3D (ds : List D) (Q : List D → Prop) : Prop := match ds with
  | [.int a, .int b, .int c] => (c = -1 ∧ -(2 ^ 62) ≤ a ∧ a < 2 ^ 62 ∧ -(2 ^ 62) ≤ b ∧ b < 2 ^ 62) ∧ Q (downs a (a - b).toNat)
  | _ => False
theorem zS_r3 {ra : DA} {δ : DS} {Q : List D → Prop} : iR3 ra δ Q = ra δ fun ds => r3D ds Q := propext Iff.rfl
theorem zS_r3D {a b c : Int} {Q : List D → Prop} : r3D [.int a, .int b, .int c] Q = ((c = -1 ∧ -(2 ^ 62) ≤ a ∧ a < 2 ^ 62 ∧ -(2 ^ 62) ≤ b ∧ b < 2 ^ 62) ∧ Q (downs a (a - b).toNat)) := propext Iff.rfl
theorem notB_eq {b : Bool} {F : Bool → Prop} : notB b F = F (!b) := by cases b <;> rfl
theorem po_step {W : DEnds} {K : List Pc} {p q : Pc} {m : Nat} (hq : K[m]? = some q) (oq : Okp q) (op : Okp p) (k1 : tch q p = true → W.rt (posD (if q = ctr p then some m else none))) (k2 : tch q p = false → W.nx [some (.sh (lD K)), some (.sh (pcD p)), some (.sh (.int m))]) : b_place_of_undone_1 W [some (.sh (lD K)), some (.sh (pcD p)), some (.sh (.int m))] := by
  have hm : (K.map pcD)[((m : Int)).toNat]? = some (pcD q) := by rw [Int.toNat_natCast, List.getElem?_map, hq]; rfl
  unfold lD at k2 ⊢
  simp only [b_place_of_undone_1, ↓zHd0, zHp0, ↓zGd0, ↓zGd1, ↓zGd2, ↓zGd3, ↓zGd4, zGp0, startD, ↓List.map_cons, ↓List.map_nil, ↓List.length_cons, ↓List.length_nil, Nat.reduceAdd, Nat.reduceSub, Nat.sub_self, List.replicate, ↓List.cons_append, ↓List.nil_append, List.append_nil, ↓List.getElem?_cons_zero, ↓List.getElem?_cons_succ, ↓List.set_cons_zero, ↓List.set_cons_succ, wipeD, Bool.not_true, Bool.not_false, decide_true, decide_false, beq_self_eq_true, true_and, and_true, Nat.reduceLeDiff, toDs, toDk, toDs_sh, ↓zS_ii, ↓zS_bi, ↓zS_bb, ↓zS_tt, ↓zS_ll, ↓zS_lt, ↓zS_lk, ↓zS_cut3, ↓zS_r3, ↓zS_r3D]
  rw [atI_q (by omega) hm]
  simp only [↓zHd0, zHp0, ↓zGd0, ↓zGd1, ↓zGd2, ↓zGd3, ↓zGd4, zGp0, startD, ↓List.map_cons, ↓List.map_nil, ↓List.length_cons, ↓List.length_nil, Nat.reduceAdd, Nat.reduceSub, Nat.sub_self, List.replicate, ↓List.cons_append, ↓List.nil_append, List.append_nil, ↓List.getElem?_cons_zero, ↓List.getElem?_cons_succ, ↓List.set_cons_zero, ↓List.set_cons_succ, wipeD, Bool.not_true, Bool.not_false, decide_true, decide_false, beq_self_eq_true, true_and, and_true, Nat.reduceLeDiff, toDs, toDk, toDs_sh, ↓zS_ii, ↓zS_bi, ↓zS_bb, ↓zS_tt, ↓zS_ll, ↓zS_lt, ↓zS_lk, ↓zS_cut3, ↓zS_r3, ↓zS_r3D]
  refine touch_ok ?_
  cases ht : tch q p with
  | false =>
    simp only [↓zHd0, zHp0, ↓zGd0, ↓zGd1, ↓zGd2, ↓zGd3, ↓zGd4, zGp0, startD, ↓List.map_cons, ↓List.map_nil, ↓List.length_cons, ↓List.length_nil, Nat.reduceAdd, Nat.reduceSub, Nat.sub_self, List.replicate, ↓List.cons_append, ↓List.nil_append, List.append_nil, ↓List.getElem?_cons_zero, ↓List.getElem?_cons_succ, ↓List.set_cons_zero, ↓List.set_cons_succ, wipeD, Bool.not_true, Bool.not_false, decide_true, decide_false, beq_self_eq_true, true_and, and_true, Nat.reduceLeDiff, toDs, toDk, toDs_sh, ↓zS_ii, ↓zS_bi, ↓zS_bb, ↓zS_tt, ↓zS_ll, ↓zS_lt, ↓zS_lk, ↓zS_cut3, ↓zS_r3, ↓zS_r3D]
    exact k2 ht
  | true =>
    simp only [↓zHd0, zHp0, ↓zGd0, ↓zGd1, ↓zGd2, ↓zGd3, ↓zGd4, zGp0, startD, ↓List.map_cons, ↓List.map_nil, ↓List.length_cons, ↓List.length_nil, Nat.reduceAdd, Nat.reduceSub, Nat.sub_self, List.replicate, ↓List.cons_append, ↓List.nil_append, List.append_nil, ↓List.getElem?_cons_zero, ↓List.getElem?_cons_succ, ↓List.set_cons_zero, ↓List.set_cons_succ, wipeD, Bool.not_true, Bool.not_false, decide_true, decide_false, beq_self_eq_true, true_and, and_true, Nat.reduceLeDiff, toDs, toDk, toDs_sh, ↓zS_ii, ↓zS_bi, ↓zS_bb, ↓zS_tt, ↓zS_ll, ↓zS_lt, ↓zS_lk, ↓zS_cut3, ↓zS_r3, ↓zS_r3D]
    rw [atI_q (by omega) hm]
    have e1 : ∀ Q : D → Prop, oSl (pcD p) none (some 3) Q = Q (.tup [.int p.1, .int p.2.1, .bl p.2.2.1]) := fun Q => by
      unfold pcD
      simp only [↓zHd0, zHp0, ↓zGd0, ↓zGd1, ↓zGd2, ↓zGd3, ↓zGd4, zGp0, startD, ↓List.map_cons, ↓List.map_nil, ↓List.length_cons, ↓List.length_nil, Nat.reduceAdd, Nat.reduceSub, Nat.sub_self, List.replicate, ↓List.cons_append, ↓List.nil_append, List.append_nil, ↓List.getElem?_cons_zero, ↓List.getElem?_cons_succ, ↓List.set_cons_zero, ↓List.set_cons_succ, wipeD, Bool.not_true, Bool.not_false, decide_true, decide_false, beq_self_eq_true, true_and, and_true, Nat.reduceLeDiff, toDs, toDk, toDs_sh, ↓zS_ii, ↓zS_bi, ↓zS_bb, ↓zS_tt, ↓zS_ll, ↓zS_lt, ↓zS_lk, ↓zS_cut3, ↓zS_r3, ↓zS_r3D]
    have e2 : ∀ Q : D → Prop, oIx (pcD p) (.int 3) Q = Q (.bl p.2.2.2) := fun Q => by
      unfold pcD
      simp only [↓zHd0, zHp0, ↓zGd0, ↓zGd1, ↓zGd2, ↓zGd3, ↓zGd4, zGp0, startD, ↓List.map_cons, ↓List.map_nil, ↓List.length_cons, ↓List.length_nil, Nat.reduceAdd, Nat.reduceSub, Nat.sub_self, List.replicate, ↓List.cons_append, ↓List.nil_append, List.append_nil, ↓List.getElem?_cons_zero, ↓List.getElem?_cons_succ, ↓List.set_cons_zero, ↓List.set_cons_succ, wipeD, Bool.not_true, Bool.not_false, decide_true, decide_false, beq_self_eq_true, true_and, and_true, Nat.reduceLeDiff, toDs, toDk, toDs_sh, ↓zS_ii, ↓zS_bi, ↓zS_bb, ↓zS_tt, ↓zS_ll, ↓zS_lt, ↓zS_lk, ↓zS_cut3, ↓zS_r3, ↓zS_r3D]
    simp only [↓zHd0, zHp0, ↓zGd0, ↓zGd1, ↓zGd2, ↓zGd3, ↓zGd4, zGp0, startD, ↓List.map_cons, ↓List.map_nil, ↓List.length_cons, ↓List.length_nil, Nat.reduceAdd, Nat.reduceSub, Nat.sub_self, List.replicate, ↓List.cons_append, ↓List.nil_append, List.append_nil, ↓List.getElem?_cons_zero, ↓List.getElem?_cons_succ, ↓List.set_cons_zero, ↓List.set_cons_succ, wipeD, Bool.not_true, Bool.not_false, decide_true, decide_false, beq_self_eq_true, true_and, and_true, Nat.reduceLeDiff, toDs, toDk, toDs_sh, ↓zS_ii, ↓zS_bi, ↓zS_bb, ↓zS_tt, ↓zS_ll, ↓zS_lt, ↓zS_lk, ↓zS_cut3, ↓zS_r3, ↓zS_r3D]
    rw [e1, e2]
    have e3 : (D.tup [.int p.1, .int p.2.1, .bl p.2.2.1, .bl (!p.2.2.2)]) = pcD (ctr p) := rfl
    simp only [↓zHd0, zHp0, ↓zGd0, ↓zGd1, ↓zGd2, ↓zGd3, ↓zGd4, zGp0, startD, ↓List.map_cons, ↓List.map_nil, ↓List.length_cons, ↓List.length_nil, Nat.reduceAdd, Nat.reduceSub, Nat.sub_self, List.replicate, ↓List.cons_append, ↓List.nil_append, List.append_nil, ↓List.getElem?_cons_zero, ↓List.getElem?_cons_succ, ↓List.set_cons_zero, ↓List.set_cons_succ, wipeD, Bool.not_true, Bool.not_false, decide_true, decide_false, beq_self_eq_true, true_and, and_true, Nat.reduceLeDiff, toDs, toDk, toDs_sh, ↓zS_ii, ↓zS_bi, ↓zS_bb, ↓zS_tt, ↓zS_ll, ↓zS_lt, ↓zS_lk, ↓zS_cut3, ↓zS_r3, ↓zS_r3D]
    rw [notB_eq, e3]
    refine ⟨⟨by simp, by rw [sizeLine_eq]; decide⟩, ?_⟩
    have e4 : ∀ Q : D → Prop, oEq (pcD q) (pcD (ctr p)) Q = ((DL.plain (pcD q) = true ∧ DL.plain (pcD (ctr p)) = true) ∧ Q (.bl (eqb (pcD q) (pcD (ctr p))))) := fun Q => propext Iff.rfl
    rw [e4, pc_eqb]
    refine ⟨⟨pc_pl oq, pc_pl ⟨op.i0, op.i1, op.j0, op.j1⟩⟩, ?_⟩
    have k1 := k1 ht
    by_cases h : q = ctr p
    · rw [if_pos h] at k1
      rw [decide_eq_true h]
      simp only [↓zHd0, zHp0, ↓zGd0, ↓zGd1, ↓zGd2, ↓zGd3, ↓zGd4, zGp0, startD, ↓List.map_cons, ↓List.map_nil, ↓List.length_cons, ↓List.length_nil, Nat.reduceAdd, Nat.reduceSub, Nat.sub_self, List.replicate, ↓List.cons_append, ↓List.nil_append, List.append_nil, ↓List.getElem?_cons_zero, ↓List.getElem?_cons_succ, ↓List.set_cons_zero, ↓List.set_cons_succ, wipeD, Bool.not_true, Bool.not_false, decide_true, decide_false, beq_self_eq_true, true_and, and_true, Nat.reduceLeDiff, toDs, toDk, toDs_sh, ↓zS_ii, ↓zS_bi, ↓zS_bb, ↓zS_tt, ↓zS_ll, ↓zS_lt, ↓zS_lk, ↓zS_cut3, ↓zS_r3, ↓zS_r3D]
      exact k1
    · rw [if_neg h] at k1
      rw [decide_eq_false h]
      simp only [↓zHd0, zHp0, ↓zGd0, ↓zGd1, ↓zGd2, ↓zGd3, ↓zGd4, zGp0, startD, ↓List.map_cons, ↓List.map_nil, ↓List.length_cons, ↓List.length_nil, Nat.reduceAdd, Nat.reduceSub, Nat.sub_self, List.replicate, ↓List.cons_append, ↓List.nil_append, List.append_nil, ↓List.getElem?_cons_zero, ↓List.getElem?_cons_succ, ↓List.set_cons_zero, ↓List.set_cons_succ, wipeD, Bool.not_true, Bool.not_false, decide_true, decide_false, beq_self_eq_true, true_and, and_true, Nat.reduceLeDiff, toDs, toDk, toDs_sh, ↓zS_ii, ↓zS_bi, ↓zS_bb, ↓zS_tt, ↓zS_ll, ↓zS_lt, ↓zS_lk, ↓zS_cut3, ↓zS_r3, ↓zS_r3D]
      exact k1
/-- the loop -/
theorem po_loop {W : DEnds} {K : List Pc} {p : Pc} (hK : Okl K) (hl : K.length ≤ 100000) (op : Okp p) : ∀ (r s : List Pc) (o2 : Option SD), K = r.reverse ++ s → (∀ m, pos r p = some m → W.rt (.int m)) → (pos r p = none → W.rt .non) → (pos r p = none → ∀ o2, W.nx [some (.sh (lD K)), some (.sh (pcD p)), o2]) → forD (gN 2) b_place_of_undone_1 W (downs ((r.length : Int) - 1) r.length) [some (.sh (lD K)), some (.sh (pcD p)), o2]
  | [], s, o2, e, k1, k2, k3 => k3 rfl o2
  | q :: r, s, o2, e, k1, k2, k3 => by
    rw [List.length_cons, downs_c, forD_c, show ((r.length + 1 : Nat) : Int) - 1 = (r.length : Int) by omega]
    show b_place_of_undone_1 _ [some (.sh (lD K)), some (.sh (pcD p)), some (.sh (.int (r.length : Int)))]
    have hq : K[r.length]? = some q := by
      rw [e, List.reverse_cons, List.append_assoc, List.getElem?_append_right (by simp), List.length_reverse, Nat.sub_self]
      rfl
    refine po_step hq (hK q (List.mem_of_getElem? hq)) op (fun ht => ?_) (fun ht => ?_)
    · have e1 : pos (q :: r) p = if q = ctr p then some r.length else none := by rw [pos, if_pos ht]
      by_cases h : q = ctr p
      · rw [if_pos h]
        exact k1 _ (by rw [e1, if_pos h])
      · rw [if_neg h]
        exact k2 (by rw [e1, if_neg h])
    · have e1 : pos (q :: r) p = pos r p := by rw [pos, if_neg (by rw [ht]; decide)]
      rw [e1] at k1 k2 k3
      exact po_loop hK hl op r (q :: s) _ (by rw [e, List.reverse_cons, List.append_assoc]; rfl) k1 k2 k3
theorem place_ok {r : List Pc} {p : Pc} {Q : D → Prop} (hK : Okl r) (hl : r.length ≤ 100000) (op : Okp p) (hq : Q (posD (pos r p))) : S_place_of_undone [lD r.reverse, pcD p] Q := by
  refine ⟨rfl, ?_⟩
  unfold lD
  simp only [t_place_of_undone, ↓zHd0, zHp0, ↓zGd0, ↓zGd1, ↓zGd2, ↓zGd3, ↓zGd4, zGp0, startD, ↓List.map_cons, ↓List.map_nil, ↓List.length_cons, ↓List.length_nil, Nat.reduceAdd, Nat.reduceSub, Nat.sub_self, List.replicate, ↓List.cons_append, ↓List.nil_append, List.append_nil, ↓List.getElem?_cons_zero, ↓List.getElem?_cons_succ, ↓List.set_cons_zero, ↓List.set_cons_succ, wipeD, Bool.not_true, Bool.not_false, decide_true, decide_false, beq_self_eq_true, true_and, and_true, Nat.reduceLeDiff, toDs, toDk, toDs_sh, ↓zS_ii, ↓zS_bi, ↓zS_bb, ↓zS_tt, ↓zS_ll, ↓zS_lt, ↓zS_lk, ↓zS_cut3, ↓zS_r3, ↓zS_r3D]
  rw [List.length_map, List.length_reverse]
  refine ⟨⟨by omega, by omega, by decide, by decide⟩, ?_⟩
  rw [show ((r.length : Int) - 1 - -1).toNat = r.length by omega]
  refine po_loop (K := r.reverse) (fun x hx => hK x (List.mem_reverse.mp hx)) (by rw [List.length_reverse]; exact hl) op r [] none (by rw [List.append_nil]) (fun m hm => ?_) (fun hm => ?_) (fun hm o2 => ?_)
  · rw [hm] at hq; exact hq
  · rw [hm] at hq; exact hq
  · rw [hm] at hq; exact hq
theorem zS_nonI {m : Int} : isNonD (.int m) = false := by rfl
theorem zS_nonN : isNonD .non = true := by rfl
theorem cut_to {α : Type} {xs : List α} {m : Nat} (h : m ≤ xs.length) : cut xs none (some (m : Int)) = xs.take m := by
  unfold cut
  rw [HT.sIx_nat, show HT.sIx xs.length 0 none = 0 from rfl, Nat.min_eq_left h, List.drop_zero, Nat.sub_zero]
theorem cut_from {α : Type} {xs : List α} {m : Nat} (h : m ≤ xs.length) : cut xs (some (m : Int)) none = xs.drop m := by
  unfold cut
  rw [HT.sIx_nat, show HT.sIx xs.length xs.length none = xs.length from rfl, Nat.min_eq_left h]
  exact List.take_of_length_le (by rw [List.length_drop]; omega)
theorem Okp.ctr {p : Pc} (h : Okp p) : Okp (My.ctr p) := ⟨h.i0, h.i1, h.j0, h.j1⟩
theorem Cm_mem {u v : List Pc} (h : Cm u v) (x : Pc) : x ∈ u ↔ x ∈ v := by
  induction h with
  | nil => exact Iff.rfl
  | cons a _ ih => simp [ih]
  | swap u h => simp only [List.mem_cons]; exact ⟨fun z => by rcases z with z | z | z <;> simp [z], fun z => by rcases z with z | z | z <;> simp [z]⟩
  | trans _ _ i1 i2 => exact i1.trans i2
theorem rem_okl {r r' : List Pc} {p : Pc} (h : Okl r) (e : rem r p = some r') : Okl r' := fun x hx => by
  have g := rem_spec e
  exact h x ((Cm_mem g x).mpr (List.mem_cons_of_mem _ hx))
theorem wo_step {W : DEnds} {d : D} {r : List Pc} {p : Pc} {o3 : Option SD} (h : Okl r) (hl : r.length < 100000) (op : Okp p) (k : ∀ o3, W.nx [some (.sh d), some (.sh (lD (psh r p).reverse)), some (.sh (pcD p)), o3]) : b_without_undone_1 W [some (.sh d), some (.sh (lD r.reverse)), some (.sh (pcD p)), o3] := by
  simp only [b_without_undone_1, ↓zHd0, zHp0, ↓zGd0, ↓zGd1, ↓zGd2, ↓zGd3, ↓zGd4, zGp0, startD, ↓List.map_cons, ↓List.map_nil, ↓List.length_cons, ↓List.length_nil, Nat.reduceAdd, Nat.reduceSub, Nat.sub_self, List.replicate, ↓List.cons_append, ↓List.nil_append, List.append_nil, ↓List.getElem?_cons_zero, ↓List.getElem?_cons_succ, ↓List.set_cons_zero, ↓List.set_cons_succ, wipeD, Bool.not_true, Bool.not_false, decide_true, decide_false, beq_self_eq_true, true_and, and_true, Nat.reduceLeDiff, toDs, toDk, toDs_sh, ↓zS_ii, ↓zS_bi, ↓zS_bb, ↓zS_tt, ↓zS_ll, ↓zS_lt, ↓zS_lk, ↓zS_cut3, ↓zS_r3, ↓zS_r3D, ↓zS_nonI, ↓zS_nonN]
  refine place_ok h (by omega) op ?_
  rcases pos_rem (r := r) (p := p) with ⟨a, b⟩ | ⟨m, r', a, b, c, e⟩
  · rw [a]
    have e1 : psh r p = p :: r := by unfold psh; rw [b]
    rw [e1] at k
    unfold posD lD at *
    simp only [↓zHd0, zHp0, ↓zGd0, ↓zGd1, ↓zGd2, ↓zGd3, ↓zGd4, zGp0, startD, ↓List.map_cons, ↓List.map_nil, ↓List.length_cons, ↓List.length_nil, Nat.reduceAdd, Nat.reduceSub, Nat.sub_self, List.replicate, ↓List.cons_append, ↓List.nil_append, List.append_nil, ↓List.getElem?_cons_zero, ↓List.getElem?_cons_succ, ↓List.set_cons_zero, ↓List.set_cons_succ, wipeD, Bool.not_true, Bool.not_false, decide_true, decide_false, beq_self_eq_true, true_and, and_true, Nat.reduceLeDiff, toDs, toDk, toDs_sh, ↓zS_ii, ↓zS_bi, ↓zS_bb, ↓zS_tt, ↓zS_ll, ↓zS_lt, ↓zS_lk, ↓zS_cut3, ↓zS_r3, ↓zS_r3D, ↓zS_nonI, ↓zS_nonN]
    refine ⟨by rw [List.length_map, List.length_reverse, sizeLine_eq]; omega, ?_⟩
    rw [List.reverse_cons, List.map_append] at k
    exact k _
  · rw [a]
    have e1 : psh r p = r' := by unfold psh; rw [b]
    rw [e1, e] at k
    unfold lD at k
    rw [List.map_append, List.map_take, List.map_drop] at k
    have c1 : m ≤ (r.reverse.map pcD).length := by rw [List.length_map, List.length_reverse]; omega
    have c2 : m + 1 ≤ (r.reverse.map pcD).length := by rw [List.length_map, List.length_reverse]; omega
    unfold posD lD at *
    simp only [↓zHd0, zHp0, ↓zGd0, ↓zGd1, ↓zGd2, ↓zGd3, ↓zGd4, zGp0, startD, ↓List.map_cons, ↓List.map_nil, ↓List.length_cons, ↓List.length_nil, Nat.reduceAdd, Nat.reduceSub, Nat.sub_self, List.replicate, ↓List.cons_append, ↓List.nil_append, List.append_nil, ↓List.getElem?_cons_zero, ↓List.getElem?_cons_succ, ↓List.set_cons_zero, ↓List.set_cons_succ, wipeD, Bool.not_true, Bool.not_false, decide_true, decide_false, beq_self_eq_true, true_and, and_true, Nat.reduceLeDiff, toDs, toDk, toDs_sh, ↓zS_ii, ↓zS_bi, ↓zS_bb, ↓zS_tt, ↓zS_ll, ↓zS_lt, ↓zS_lk, ↓zS_cut3, ↓zS_r3, ↓zS_r3D, ↓zS_nonI, ↓zS_nonN]
    rw [cut_to c1, show (m : Int) + 1 = ((m + 1 : Nat) : Int) by omega, cut_from c2]
    refine ⟨by rw [List.length_take, List.length_drop, sizeLine_eq]; rw [List.length_map, List.length_reverse] at *; omega, k _⟩
theorem psh_okl {r : List Pc} {p : Pc} (h : Okl r) (op : Okp p) : Okl (psh r p) := by
  unfold psh
  cases e : rem r p with
  | none => exact List.forall_mem_cons.mpr ⟨op, h⟩
  | some r' => exact rem_okl h e
theorem psh_len (r : List Pc) (p : Pc) : (psh r p).length ≤ r.length + 1 := by
  unfold psh
  cases e : rem r p with
  | none => exact Nat.le_refl _
  | some r' => have := rem_len e; show r'.length ≤ _; omega
theorem act_okl : ∀ (u : List Pc) {r : List Pc}, Okl u → Okl r → Okl (act u r)
  | [], _, _, h => h
  | p :: u, r, h, g => act_okl u (r := psh r p) (fun x hx => h x (List.mem_cons_of_mem _ hx)) (psh_okl g (h p List.mem_cons_self))
theorem Fw_okl {u : List Pc} (h : Okl u) : Okl (Fw u).reverse := fun x hx => act_okl u (r := []) h (fun _ z => nomatch z) x (List.mem_reverse.mp hx)
theorem wo_loop {W : DEnds} {d : D} : ∀ (u r : List Pc) (o2 o3 : Option SD), Okl u → Okl r → r.length + u.length ≤ 100000 → (∀ o2 o3, W.nx [some (.sh d), some (.sh (lD (act u r).reverse)), o2, o3]) → forD (gN 2) b_without_undone_1 W (u.map pcD) [some (.sh d), some (.sh (lD r.reverse)), o2, o3]
  | [], r, o2, o3, _, _, _, k => k o2 o3
  | p :: u, r, o2, o3, hu, hr, hz, k => by
    rw [List.length_cons] at hz
    rw [List.map_cons, forD_c]
    show b_without_undone_1 _ [some (.sh d), some (.sh (lD r.reverse)), some (.sh (pcD p)), o3]
    have := psh_len r p
    exact wo_step hr (by omega) (hu p List.mem_cons_self) fun o3 => wo_loop u (psh r p) _ _ (fun x hx => hu x (List.mem_cons_of_mem _ hx)) (psh_okl hr (hu p List.mem_cons_self)) (by omega) k
theorem without_ok {d : D} {u : List Pc} {Q : D → Prop} (hd : Sqd d u) (h : Okl u) (hl : u.length ≤ 100000) (hq : Q (lD (Fw u).reverse)) : S_without_undone [d] Q := by
  refine ⟨rfl, ?_⟩
  simp only [t_without_undone, ↓zHd0, zHp0, ↓zGd0, ↓zGd1, ↓zGd2, ↓zGd3, ↓zGd4, zGp0, startD, ↓List.map_cons, ↓List.map_nil, ↓List.length_cons, ↓List.length_nil, Nat.reduceAdd, Nat.reduceSub, Nat.sub_self, List.replicate, ↓List.cons_append, ↓List.nil_append, List.append_nil, ↓List.getElem?_cons_zero, ↓List.getElem?_cons_succ, ↓List.set_cons_zero, ↓List.set_cons_succ, wipeD, Bool.not_true, Bool.not_false, decide_true, decide_false, beq_self_eq_true, true_and, and_true, Nat.reduceLeDiff, toDs, toDk, toDs_sh, ↓zS_ii, ↓zS_bi, ↓zS_bb, ↓zS_tt, ↓zS_ll, ↓zS_lt, ↓zS_lk, ↓zS_cut3, ↓zS_r3, ↓zS_r3D, ↓zS_nonI, ↓zS_nonN]
  refine hd.it _ ?_
  refine wo_loop u [] none none h (fun _ z => nomatch z) (by rw [List.length_nil]; omega) fun o2 o3 => ?_
  simp only [↓zHd0, zHp0, ↓zGd0, ↓zGd1, ↓zGd2, ↓zGd3, ↓zGd4, zGp0, startD, ↓List.map_cons, ↓List.map_nil, ↓List.length_cons, ↓List.length_nil, Nat.reduceAdd, Nat.reduceSub, Nat.sub_self, List.replicate, ↓List.cons_append, ↓List.nil_append, List.append_nil, ↓List.getElem?_cons_zero, ↓List.getElem?_cons_succ, ↓List.set_cons_zero, ↓List.set_cons_succ, wipeD, Bool.not_true, Bool.not_false, decide_true, decide_false, beq_self_eq_true, true_and, and_true, Nat.reduceLeDiff, toDs, toDk, toDs_sh, ↓zS_ii, ↓zS_bi, ↓zS_bb, ↓zS_tt, ↓zS_ll, ↓zS_lt, ↓zS_lk, ↓zS_cut3, ↓zS_r3, ↓zS_r3D, ↓zS_nonI, ↓zS_nonN]
  exact hq
theorem in_order_ok {d : D} {u : List Pc} {Q : D → Prop} (hd : Sqd d u) (h : Okl u) (hl : u.length ≤ 100000) (hq : Q (lD (Nn u))) : S_in_order [d] Q := by
  have hf : (Fw u).reverse.length ≤ 100000 := by rw [List.length_reverse]; have := (Fw_len u).1; omega
  refine ⟨rfl, ?_⟩
  simp only [t_in_order, ↓zHd0, zHp0, ↓zGd0, ↓zGd1, ↓zGd2, ↓zGd3, ↓zGd4, zGp0, startD, ↓List.map_cons, ↓List.map_nil, ↓List.length_cons, ↓List.length_nil, Nat.reduceAdd, Nat.reduceSub, Nat.sub_self, List.replicate, ↓List.cons_append, ↓List.nil_append, List.append_nil, ↓List.getElem?_cons_zero, ↓List.getElem?_cons_succ, ↓List.set_cons_zero, ↓List.set_cons_succ, wipeD, Bool.not_true, Bool.not_false, decide_true, decide_false, beq_self_eq_true, true_and, and_true, Nat.reduceLeDiff, toDs, toDk, toDs_sh, ↓zS_ii, ↓zS_bi, ↓zS_bb, ↓zS_tt, ↓zS_ll, ↓zS_lt, ↓zS_lk, ↓zS_cut3, ↓zS_r3, ↓zS_r3D, ↓zS_nonI, ↓zS_nonN]
  refine without_ok hd h hl ?_
  refine with_ok (Fw_okl h) hf ?_
  simp only [↓zHd0, zHp0, ↓zGd0, ↓zGd1, ↓zGd2, ↓zGd3, ↓zGd4, zGp0, startD, ↓List.map_cons, ↓List.map_nil, ↓List.length_cons, ↓List.length_nil, Nat.reduceAdd, Nat.reduceSub, Nat.sub_self, List.replicate, ↓List.cons_append, ↓List.nil_append, List.append_nil, ↓List.getElem?_cons_zero, ↓List.getElem?_cons_succ, ↓List.set_cons_zero, ↓List.set_cons_succ, wipeD, Bool.not_true, Bool.not_false, decide_true, decide_false, beq_self_eq_true, true_and, and_true, Nat.reduceLeDiff, toDs, toDk, toDs_sh, ↓zS_ii, ↓zS_bi, ↓zS_bb, ↓zS_tt, ↓zS_ll, ↓zS_lt, ↓zS_lk, ↓zS_cut3, ↓zS_r3, ↓zS_r3D, ↓zS_nonI, ↓zS_nonN]
  refine ⟨pl_sz (by rw [List.length_mergeSort, lev_len, List.length_nil]; omega), ?_⟩
  refine lc_ofG lpD (fun z => pcD z.2) (fun z => [some (.sh d), some (.sh (.int z.1)), some (.sh (pcD z.2))]) _ [] (fun z _ F hF => ?_) (fun z _ R hR => ?_) ?_
  · unfold lpD
    simp only [↓zHd0, zHp0, ↓zGd0, ↓zGd1, ↓zGd2, ↓zGd3, ↓zGd4, zGp0, startD, ↓List.map_cons, ↓List.map_nil, ↓List.length_cons, ↓List.length_nil, Nat.reduceAdd, Nat.reduceSub, Nat.sub_self, List.replicate, ↓List.cons_append, ↓List.nil_append, List.append_nil, ↓List.getElem?_cons_zero, ↓List.getElem?_cons_succ, ↓List.set_cons_zero, ↓List.set_cons_succ, wipeD, Bool.not_true, Bool.not_false, decide_true, decide_false, beq_self_eq_true, true_and, and_true, Nat.reduceLeDiff, toDs, toDk, toDs_sh, ↓zS_ii, ↓zS_bi, ↓zS_bb, ↓zS_tt, ↓zS_ll, ↓zS_lt, ↓zS_lk, ↓zS_cut3, ↓zS_r3, ↓zS_r3D, ↓zS_nonI, ↓zS_nonN]
    exact hF
  · simp only [↓zHd0, zHp0, ↓zGd0, ↓zGd1, ↓zGd2, ↓zGd3, ↓zGd4, zGp0, startD, ↓List.map_cons, ↓List.map_nil, ↓List.length_cons, ↓List.length_nil, Nat.reduceAdd, Nat.reduceSub, Nat.sub_self, List.replicate, ↓List.cons_append, ↓List.nil_append, List.append_nil, ↓List.getElem?_cons_zero, ↓List.getElem?_cons_succ, ↓List.set_cons_zero, ↓List.set_cons_succ, wipeD, Bool.not_true, Bool.not_false, decide_true, decide_false, beq_self_eq_true, true_and, and_true, Nat.reduceLeDiff, toDs, toDk, toDs_sh, ↓zS_ii, ↓zS_bi, ↓zS_bb, ↓zS_tt, ↓zS_ll, ↓zS_lt, ↓zS_lk, ↓zS_cut3, ↓zS_r3, ↓zS_r3D, ↓zS_nonI, ↓zS_nonN]
    exact hR
  · have e : (((lev [] (Fw u).reverse).mergeSort leL).map fun z => pcD z.2) = (Nn u).map pcD := by
      unfold Nn nf
      rw [List.map_map]; rfl
    rw [List.nil_append, e]
    exact hq
theorem init_ok {d : D} {u : List Pc} {Q : List D → Prop} (hd : Sqd d u) (h : Okl u) (hl : u.length ≤ 100000) (hq : Q [lD (Nn u)]) : S_Heap___init__ [d] Q := by
  refine ⟨rfl, fun x => ?_⟩
  show t_Heap___init__ _ [some (.nw x 5 []), some (.sh d)]
  simp only [t_Heap___init__, ↓zHd0, zHp0, ↓zGd0, ↓zGd1, ↓zGd2, ↓zGd3, ↓zGd4, zGp0, startD, ↓List.map_cons, ↓List.map_nil, ↓List.length_cons, ↓List.length_nil, Nat.reduceAdd, Nat.reduceSub, Nat.sub_self, List.replicate, ↓List.cons_append, ↓List.nil_append, List.append_nil, ↓List.getElem?_cons_zero, ↓List.getElem?_cons_succ, ↓List.set_cons_zero, ↓List.set_cons_succ, wipeD, Bool.not_true, Bool.not_false, decide_true, decide_false, beq_self_eq_true, true_and, and_true, Nat.reduceLeDiff, toDs, toDk, toDs_sh, ↓zS_ii, ↓zS_bi, ↓zS_bb, ↓zS_tt, ↓zS_ll, ↓zS_lt, ↓zS_lk, ↓zS_cut3, ↓zS_r3, ↓zS_r3D, ↓zS_nonI, ↓zS_nonN]
  refine are_ok hd h hl ?_
  simp only [notB_eq, ↓zHd0, zHp0, ↓zGd0, ↓zGd1, ↓zGd2, ↓zGd3, ↓zGd4, zGp0, startD, ↓List.map_cons, ↓List.map_nil, ↓List.length_cons, ↓List.length_nil, Nat.reduceAdd, Nat.reduceSub, Nat.sub_self, List.replicate, ↓List.cons_append, ↓List.nil_append, List.append_nil, ↓List.getElem?_cons_zero, ↓List.getElem?_cons_succ, ↓List.set_cons_zero, ↓List.set_cons_succ, wipeD, Bool.not_true, Bool.not_false, decide_true, decide_false, beq_self_eq_true, true_and, and_true, Nat.reduceLeDiff, toDs, toDk, toDs_sh, ↓zS_ii, ↓zS_bi, ↓zS_bb, ↓zS_tt, ↓zS_ll, ↓zS_lt, ↓zS_lk, ↓zS_cut3, ↓zS_r3, ↓zS_r3D, ↓zS_nonI, ↓zS_nonN]
  show dSelf 0 0 5 (dCall S_in_order (dCons (dVar 1) dNil)) (endI x 5 Q) [some (.nw x 5 []), some (.sh d)]
  refine in_order_ok hd h hl ?_
  exact ⟨⟨rfl, rfl⟩, ⟨rfl, rfl⟩, [lD (Nn u)], rfl, by simp, hq⟩
theorem make_ok {d : D} {u : List Pc} {Q : D → Prop} (hd : Sqd d u) (h : Okl u) (hl : u.length ≤ 100000) (hq : Q (hpD (Nn u))) : S_Heap___init__ [d] fun fs => Q (.obj 5 fs) := init_ok hd h hl hq
theorem Nn_okl {u : List Pc} (h : Okl u) : Okl (Nn u) := fun x hx => Fw_okl h x ((Cm_mem (cm_nf _) x).mp hx)
theorem Nn_le (u : List Pc) : (Nn u).length ≤ u.length := by rw [Nn_len]; exact (Fw_len u).1
section
variable {A : List Pc} {Q : D → Prop}
theorem hlen_ok (hq : Q (.int A.length)) : S_Heap___len__ [hpD A] Q := by
  refine ⟨rfl, ?_⟩
  unfold hpD lD
  simp only [t_Heap___len__, ↓zHd0, zHp0, ↓zGd0, ↓zGd1, ↓zGd2, ↓zGd3, ↓zGd4, zGp0, startD, ↓List.map_cons, ↓List.map_nil, ↓List.length_cons, ↓List.length_nil, Nat.reduceAdd, Nat.reduceSub, Nat.sub_self, List.replicate, ↓List.cons_append, ↓List.nil_append, List.append_nil, ↓List.getElem?_cons_zero, ↓List.getElem?_cons_succ, ↓List.set_cons_zero, ↓List.set_cons_succ, wipeD, Bool.not_true, Bool.not_false, decide_true, decide_false, beq_self_eq_true, true_and, and_true, Nat.reduceLeDiff, toDs, toDk, toDs_sh, ↓zS_ii, ↓zS_bi, ↓zS_bb, ↓zS_tt, ↓zS_ll, ↓zS_lt, ↓zS_lk, ↓zS_cut3, ↓zS_r3, ↓zS_r3D, ↓zS_nonI, ↓zS_nonN]
  rw [List.length_map]
  exact hq
end
theorem okl_app {u v : List Pc} (h : Okl u) (g : Okl v) : Okl (u ++ v) := fun x hx => (List.mem_append.mp hx).elim (h x) (g x)
theorem take_ok {n : Int} {Q : D → Prop} (h0 : 0 < n) (h1 : n ≤ 1000) (hq : ∀ v : Int, 0 ≤ v → v < n → Q (.int v)) : S__law_take [.bag, .int n] Q := by
  unfold S__law_take
  exact ⟨⟨h0, small_log h0 (by omega)⟩, hq⟩
theorem lpick_ok {xs : List D} {Q : D → Prop} (h0 : xs ≠ []) (h1 : xs.length ≤ 1000) (hq : ∀ x ∈ xs, Q x) : S__law_pick [.bag, .lst xs] Q := by
  refine ⟨rfl, ?_⟩
  have h0 : 0 < xs.length := List.length_pos_iff.mpr h0
  simp only [t__law_pick, ↓zHd0, zHp0, ↓zGd0, ↓zGd1, ↓zGd2, ↓zGd3, ↓zGd4, zGp0, startD, ↓List.map_cons, ↓List.map_nil, ↓List.length_cons, ↓List.length_nil, Nat.reduceAdd, Nat.reduceSub, Nat.sub_self, List.replicate, ↓List.cons_append, ↓List.nil_append, List.append_nil, ↓List.getElem?_cons_zero, ↓List.getElem?_cons_succ, ↓List.set_cons_zero, ↓List.set_cons_succ, wipeD, Bool.not_true, Bool.not_false, decide_true, decide_false, beq_self_eq_true, true_and, and_true, Nat.reduceLeDiff, toDs, toDk, toDs_sh, ↓zS_ii, ↓zS_bi, ↓zS_bb, ↓zS_tt, ↓zS_ll, ↓zS_lt, ↓zS_lk, ↓zS_cut3, ↓zS_r3, ↓zS_r3D, ↓zS_nonI, ↓zS_nonN]
  refine take_ok (by omega) (by omega) fun v v0 v1 => ?_
  simp only [↓zHd0, zHp0, ↓zGd0, ↓zGd1, ↓zGd2, ↓zGd3, ↓zGd4, zGp0, startD, ↓List.map_cons, ↓List.map_nil, ↓List.length_cons, ↓List.length_nil, Nat.reduceAdd, Nat.reduceSub, Nat.sub_self, List.replicate, ↓List.cons_append, ↓List.nil_append, List.append_nil, ↓List.getElem?_cons_zero, ↓List.getElem?_cons_succ, ↓List.set_cons_zero, ↓List.set_cons_succ, wipeD, Bool.not_true, Bool.not_false, decide_true, decide_false, beq_self_eq_true, true_and, and_true, Nat.reduceLeDiff, toDs, toDk, toDs_sh, ↓zS_ii, ↓zS_bi, ↓zS_bb, ↓zS_tt, ↓zS_ll, ↓zS_lt, ↓zS_lk, ↓zS_cut3, ↓zS_r3, ↓zS_r3D, ↓zS_nonI, ↓zS_nonN]
  rw [atI_pos v0 v1]
  exact hq _ (List.getElem_mem _)
theorem lcontr_ok {p : Pc} {Q : D → Prop} (hq : Q (pcD (ctr p))) : S__law_contrary [pcD p] Q := by
  refine ⟨rfl, ?_⟩
  have e1 : ∀ Q : D → Prop, oSl (pcD p) none (some 3) Q = Q (.tup [.int p.1, .int p.2.1, .bl p.2.2.1]) := fun Q => by
    unfold pcD
    simp only [↓zHd0, zHp0, ↓zGd0, ↓zGd1, ↓zGd2, ↓zGd3, ↓zGd4, zGp0, startD, ↓List.map_cons, ↓List.map_nil, ↓List.length_cons, ↓List.length_nil, Nat.reduceAdd, Nat.reduceSub, Nat.sub_self, List.replicate, ↓List.cons_append, ↓List.nil_append, List.append_nil, ↓List.getElem?_cons_zero, ↓List.getElem?_cons_succ, ↓List.set_cons_zero, ↓List.set_cons_succ, wipeD, Bool.not_true, Bool.not_false, decide_true, decide_false, beq_self_eq_true, true_and, and_true, Nat.reduceLeDiff, toDs, toDk, toDs_sh, ↓zS_ii, ↓zS_bi, ↓zS_bb, ↓zS_tt, ↓zS_ll, ↓zS_lt, ↓zS_lk, ↓zS_cut3, ↓zS_r3, ↓zS_r3D, ↓zS_nonI, ↓zS_nonN]
  have e2 : ∀ Q : D → Prop, oIx (pcD p) (.int 3) Q = Q (.bl p.2.2.2) := fun Q => by
    unfold pcD
    simp only [↓zHd0, zHp0, ↓zGd0, ↓zGd1, ↓zGd2, ↓zGd3, ↓zGd4, zGp0, startD, ↓List.map_cons, ↓List.map_nil, ↓List.length_cons, ↓List.length_nil, Nat.reduceAdd, Nat.reduceSub, Nat.sub_self, List.replicate, ↓List.cons_append, ↓List.nil_append, List.append_nil, ↓List.getElem?_cons_zero, ↓List.getElem?_cons_succ, ↓List.set_cons_zero, ↓List.set_cons_succ, wipeD, Bool.not_true, Bool.not_false, decide_true, decide_false, beq_self_eq_true, true_and, and_true, Nat.reduceLeDiff, toDs, toDk, toDs_sh, ↓zS_ii, ↓zS_bi, ↓zS_bb, ↓zS_tt, ↓zS_ll, ↓zS_lt, ↓zS_lk, ↓zS_cut3, ↓zS_r3, ↓zS_r3D, ↓zS_nonI, ↓zS_nonN]
  simp only [t__law_contrary, ↓zHd0, zHp0, ↓zGd0, ↓zGd1, ↓zGd2, ↓zGd3, ↓zGd4, zGp0, startD, ↓List.map_cons, ↓List.map_nil, ↓List.length_cons, ↓List.length_nil, Nat.reduceAdd, Nat.reduceSub, Nat.sub_self, List.replicate, ↓List.cons_append, ↓List.nil_append, List.append_nil, ↓List.getElem?_cons_zero, ↓List.getElem?_cons_succ, ↓List.set_cons_zero, ↓List.set_cons_succ, wipeD, Bool.not_true, Bool.not_false, decide_true, decide_false, beq_self_eq_true, true_and, and_true, Nat.reduceLeDiff, toDs, toDk, toDs_sh, ↓zS_ii, ↓zS_bi, ↓zS_bb, ↓zS_tt, ↓zS_ll, ↓zS_lt, ↓zS_lk, ↓zS_cut3, ↓zS_r3, ↓zS_r3D, ↓zS_nonI, ↓zS_nonN]
  rw [e1, e2]
  simp only [↓zHd0, zHp0, ↓zGd0, ↓zGd1, ↓zGd2, ↓zGd3, ↓zGd4, zGp0, startD, ↓List.map_cons, ↓List.map_nil, ↓List.length_cons, ↓List.length_nil, Nat.reduceAdd, Nat.reduceSub, Nat.sub_self, List.replicate, ↓List.cons_append, ↓List.nil_append, List.append_nil, ↓List.getElem?_cons_zero, ↓List.getElem?_cons_succ, ↓List.set_cons_zero, ↓List.set_cons_succ, wipeD, Bool.not_true, Bool.not_false, decide_true, decide_false, beq_self_eq_true, true_and, and_true, Nat.reduceLeDiff, toDs, toDk, toDs_sh, ↓zS_ii, ↓zS_bi, ↓zS_bb, ↓zS_tt, ↓zS_ll, ↓zS_lt, ↓zS_lk, ↓zS_cut3, ↓zS_r3, ↓zS_r3D, ↓zS_nonI, ↓zS_nonN]
  rw [notB_eq]
  exact ⟨⟨by simp, by rw [sizeLine_eq]; decide⟩, hq⟩
theorem lpiece_ok {n m : Int} {Q : D → Prop} (n0 : 0 < n) (n1 : n ≤ 1000) (m0 : 0 < m) (m1 : m ≤ 1000) (hq : ∀ p, Okp p → Q (pcD p)) : S__law_piece [.bag, .int n, .int m] Q := by
  refine ⟨rfl, ?_⟩
  simp only [t__law_piece, ↓zHd0, zHp0, ↓zGd0, ↓zGd1, ↓zGd2, ↓zGd3, ↓zGd4, zGp0, startD, ↓List.map_cons, ↓List.map_nil, ↓List.length_cons, ↓List.length_nil, Nat.reduceAdd, Nat.reduceSub, Nat.sub_self, List.replicate, ↓List.cons_append, ↓List.nil_append, List.append_nil, ↓List.getElem?_cons_zero, ↓List.getElem?_cons_succ, ↓List.set_cons_zero, ↓List.set_cons_succ, wipeD, Bool.not_true, Bool.not_false, decide_true, decide_false, beq_self_eq_true, true_and, and_true, Nat.reduceLeDiff, toDs, toDk, toDs_sh, ↓zS_ii, ↓zS_bi, ↓zS_bb, ↓zS_tt, ↓zS_ll, ↓zS_lt, ↓zS_lk, ↓zS_cut3, ↓zS_r3, ↓zS_r3D, ↓zS_nonI, ↓zS_nonN]
  refine take_ok n0 n1 fun i i0 i1 => take_ok m0 m1 fun j j0 j1 => ?_
  refine take_ok (by decide) (by decide) fun a a0 a1 => ?_
  simp only [↓zHd0, zHp0, ↓zGd0, ↓zGd1, ↓zGd2, ↓zGd3, ↓zGd4, zGp0, startD, ↓List.map_cons, ↓List.map_nil, ↓List.length_cons, ↓List.length_nil, Nat.reduceAdd, Nat.reduceSub, Nat.sub_self, List.replicate, ↓List.cons_append, ↓List.nil_append, List.append_nil, ↓List.getElem?_cons_zero, ↓List.getElem?_cons_succ, ↓List.set_cons_zero, ↓List.set_cons_succ, wipeD, Bool.not_true, Bool.not_false, decide_true, decide_false, beq_self_eq_true, true_and, and_true, Nat.reduceLeDiff, toDs, toDk, toDs_sh, ↓zS_ii, ↓zS_bi, ↓zS_bb, ↓zS_tt, ↓zS_ll, ↓zS_lt, ↓zS_lk, ↓zS_cut3, ↓zS_r3, ↓zS_r3D, ↓zS_nonI, ↓zS_nonN]
  refine take_ok (by decide) (by decide) fun b b0 b1 => ?_
  simp only [↓zHd0, zHp0, ↓zGd0, ↓zGd1, ↓zGd2, ↓zGd3, ↓zGd4, zGp0, startD, ↓List.map_cons, ↓List.map_nil, ↓List.length_cons, ↓List.length_nil, Nat.reduceAdd, Nat.reduceSub, Nat.sub_self, List.replicate, ↓List.cons_append, ↓List.nil_append, List.append_nil, ↓List.getElem?_cons_zero, ↓List.getElem?_cons_succ, ↓List.set_cons_zero, ↓List.set_cons_succ, wipeD, Bool.not_true, Bool.not_false, decide_true, decide_false, beq_self_eq_true, true_and, and_true, Nat.reduceLeDiff, toDs, toDk, toDs_sh, ↓zS_ii, ↓zS_bi, ↓zS_bb, ↓zS_tt, ↓zS_ll, ↓zS_lt, ↓zS_lk, ↓zS_cut3, ↓zS_r3, ↓zS_r3D, ↓zS_nonI, ↓zS_nonN]
  exact hq (i, j, decide (a = 0), decide (b > 0)) ⟨i0, int_fine i0 (Int.le_trans (show i ≤ 1000 by omega) (by decide)), j0, int_fine j0 (Int.le_trans (show j ≤ 1000 by omega) (by decide))⟩
theorem cut4 {xs : List D} (h : xs ≠ []) : cut xs (some (-4)) none ≠ [] ∧ (∀ x ∈ cut xs (some (-4)) none, x ∈ xs) ∧ (cut xs (some (-4)) none).length ≤ xs.length := by
  have h := List.length_pos_iff.mpr h
  have e : HT.sIx xs.length 0 (some (-4)) = (-4 + (xs.length : Int)).toNat := by
    show (if (-4 : Int) < 0 then ((-4 : Int) + (xs.length : Int)).toNat else min (-4 : Int).toNat xs.length) = _
    rw [if_pos (by decide)]
  have c : cut xs (some (-4)) none = xs.drop (-4 + (xs.length : Int)).toNat := by
    unfold cut
    rw [HT.sIx_none, e]
    exact List.take_of_length_le (by rw [List.length_drop]; omega)
  rw [c]
  refine ⟨fun z => ?_, fun x hx => List.mem_of_mem_drop hx, by rw [List.length_drop]; omega⟩
  have := congrArg List.length z
  rw [List.length_drop, List.length_nil] at this
  omega
abbrev shP (u : List Pc) : OD := .lst ((u.map pcD).map .sh)
theorem zS_ownO {v : V} {x : OD} {K : V → OD → Prop} : ownO (some (some (.ow v x))) K = K v x := propext Iff.rfl
theorem scT_pc {p : Pc} {Q : D → Prop} : scTD (pcD p) Q = Q (pcD p) := propext ⟨fun h => h.2, fun h => ⟨rfl, h⟩⟩
theorem dp_1 {W : DEnds} {v : V} {n m : Int} {u : List Pc} {o5 o6 : Option SD} (n0 : 0 < n) (n1 : n ≤ 3) (m0 : 0 < m) (m1 : m ≤ 3) (hu : Okl u) (hl : u.length ≤ 900)
    (hN : ∀ p o6, Okp p → W.nx [some (.sh .bag), some (.sh (.int 5)), some (.ow v (shP (u ++ [p]))), some (.sh (.int n)), some (.sh (.int m)), o5, o6]) :
    b__law_drawn_pieces_1 W [some (.sh .bag), some (.sh (.int 5)), some (.ow v (shP u)), some (.sh (.int n)), some (.sh (.int m)), o5, o6] := by
  have key : ∀ p, Okp p → dAppR (rVar 2) (dVar 6) W [some (.sh .bag), some (.sh (.int 5)), some (.ow v (shP u)), some (.sh (.int n)), some (.sh (.int m)), o5, some (.sh (pcD p))] := fun p hp => by
    simp only [↓zHd0, zHp0, ↓zGd0, ↓zGd1, ↓zGd2, ↓zGd3, ↓zGd4, zGp0, startD, ↓List.map_cons, ↓List.map_nil, ↓List.length_cons, ↓List.length_nil, Nat.reduceAdd, Nat.reduceSub, Nat.sub_self, List.replicate, ↓List.cons_append, ↓List.nil_append, List.append_nil, ↓List.getElem?_cons_zero, ↓List.getElem?_cons_succ, ↓List.set_cons_zero, ↓List.set_cons_succ, wipeD, Bool.not_true, Bool.not_false, decide_true, decide_false, beq_self_eq_true, true_and, and_true, Nat.reduceLeDiff, toDs, toDk, toDs_sh, ↓zS_ii, ↓zS_bi, ↓zS_bb, ↓zS_tt, ↓zS_ll, ↓zS_lt, ↓zS_lk, ↓zS_cut3, ↓zS_r3, ↓zS_r3D, ↓zS_nonI, ↓zS_nonN, ↓zS_ownO]
    refine ⟨by rw [List.length_map, List.length_map, sizeLine_eq]; omega, ?_⟩
    have e : (u.map pcD).map OD.sh ++ [OD.sh (pcD p)] = ((u ++ [p]).map pcD).map OD.sh := by rw [List.map_append, List.map_append]; rfl
    rw [e]
    exact hN p _ hp
  have et : OD.toD (shP u) = .lst (u.map pcD) := by rw [OD.toD, toDs_sh]
  have e4 : ∀ Q : D → Prop, oNe (.lst (u.map pcD)) (.lst []) Q = ((DL.plain (lD u) = true ∧ DL.plain (D.lst []) = true) ∧ Q (.bl (!eqb (lD u) (lD [])))) := fun Q => propext Iff.rfl
  simp only [b__law_drawn_pieces_1, ↓zHd0, zHp0, ↓zGd0, ↓zGd1, ↓zGd2, ↓zGd3, ↓zGd4, zGp0, startD, ↓List.map_cons, ↓List.map_nil, ↓List.length_cons, ↓List.length_nil, Nat.reduceAdd, Nat.reduceSub, Nat.sub_self, List.replicate, ↓List.cons_append, ↓List.nil_append, List.append_nil, ↓List.getElem?_cons_zero, ↓List.getElem?_cons_succ, ↓List.set_cons_zero, ↓List.set_cons_succ, wipeD, Bool.not_true, Bool.not_false, decide_true, decide_false, beq_self_eq_true, true_and, and_true, Nat.reduceLeDiff, toDs, toDk, toDs_sh, ↓zS_ii, ↓zS_bi, ↓zS_bb, ↓zS_tt, ↓zS_ll, ↓zS_lt, ↓zS_lk, ↓zS_cut3, ↓zS_r3, ↓zS_r3D, ↓zS_nonI, ↓zS_nonN, ↓zS_ownO]
  refine lpiece_ok n0 (by omega) m0 (by omega) fun p hp => ?_
  rw [show eqb (D.lst (u.map pcD)) (D.lst []) = decide (u = []) from lD_eqb u []]
  refine ⟨⟨lD_pl hu, rfl⟩, ?_⟩
  by_cases hn : u = []
  · rw [decide_eq_true hn]
    simp only [↓zHd0, zHp0, ↓zGd0, ↓zGd1, ↓zGd2, ↓zGd3, ↓zGd4, zGp0, startD, ↓List.map_cons, ↓List.map_nil, ↓List.length_cons, ↓List.length_nil, Nat.reduceAdd, Nat.reduceSub, Nat.sub_self, List.replicate, ↓List.cons_append, ↓List.nil_append, List.append_nil, ↓List.getElem?_cons_zero, ↓List.getElem?_cons_succ, ↓List.set_cons_zero, ↓List.set_cons_succ, wipeD, Bool.not_true, Bool.not_false, decide_true, decide_false, beq_self_eq_true, true_and, and_true, Nat.reduceLeDiff, toDs, toDk, toDs_sh, ↓zS_ii, ↓zS_bi, ↓zS_bb, ↓zS_tt, ↓zS_ll, ↓zS_lt, ↓zS_lk, ↓zS_cut3, ↓zS_r3, ↓zS_r3D, ↓zS_nonI, ↓zS_nonN, ↓zS_ownO]
    exact key p hp
  rw [decide_eq_false hn]
  simp only [↓zHd0, zHp0, ↓zGd0, ↓zGd1, ↓zGd2, ↓zGd3, ↓zGd4, zGp0, startD, ↓List.map_cons, ↓List.map_nil, ↓List.length_cons, ↓List.length_nil, Nat.reduceAdd, Nat.reduceSub, Nat.sub_self, List.replicate, ↓List.cons_append, ↓List.nil_append, List.append_nil, ↓List.getElem?_cons_zero, ↓List.getElem?_cons_succ, ↓List.set_cons_zero, ↓List.set_cons_succ, wipeD, Bool.not_true, Bool.not_false, decide_true, decide_false, beq_self_eq_true, true_and, and_true, Nat.reduceLeDiff, toDs, toDk, toDs_sh, ↓zS_ii, ↓zS_bi, ↓zS_bb, ↓zS_tt, ↓zS_ll, ↓zS_lt, ↓zS_lk, ↓zS_cut3, ↓zS_r3, ↓zS_r3D, ↓zS_nonI, ↓zS_nonN, ↓zS_ownO]
  refine take_ok (by decide) (by decide) fun w w0 w1 => ?_
  simp only [↓zHd0, zHp0, ↓zGd0, ↓zGd1, ↓zGd2, ↓zGd3, ↓zGd4, zGp0, startD, ↓List.map_cons, ↓List.map_nil, ↓List.length_cons, ↓List.length_nil, Nat.reduceAdd, Nat.reduceSub, Nat.sub_self, List.replicate, ↓List.cons_append, ↓List.nil_append, List.append_nil, ↓List.getElem?_cons_zero, ↓List.getElem?_cons_succ, ↓List.set_cons_zero, ↓List.set_cons_succ, wipeD, Bool.not_true, Bool.not_false, decide_true, decide_false, beq_self_eq_true, true_and, and_true, Nat.reduceLeDiff, toDs, toDk, toDs_sh, ↓zS_ii, ↓zS_bi, ↓zS_bb, ↓zS_tt, ↓zS_ll, ↓zS_lt, ↓zS_lk, ↓zS_cut3, ↓zS_r3, ↓zS_r3D, ↓zS_nonI, ↓zS_nonN, ↓zS_ownO]
  by_cases c : w = 0
  · rw [iteS_pos c]
    simp only [et, ↓zHd0, zHp0, ↓zGd0, ↓zGd1, ↓zGd2, ↓zGd3, ↓zGd4, zGp0, startD, ↓List.map_cons, ↓List.map_nil, ↓List.length_cons, ↓List.length_nil, Nat.reduceAdd, Nat.reduceSub, Nat.sub_self, List.replicate, ↓List.cons_append, ↓List.nil_append, List.append_nil, ↓List.getElem?_cons_zero, ↓List.getElem?_cons_succ, ↓List.set_cons_zero, ↓List.set_cons_succ, wipeD, Bool.not_true, Bool.not_false, decide_true, decide_false, beq_self_eq_true, true_and, and_true, Nat.reduceLeDiff, toDs, toDk, toDs_sh, ↓zS_ii, ↓zS_bi, ↓zS_bb, ↓zS_tt, ↓zS_ll, ↓zS_lt, ↓zS_lk, ↓zS_cut3, ↓zS_r3, ↓zS_r3D, ↓zS_nonI, ↓zS_nonN, ↓zS_ownO]
    have hn2 : u.map pcD ≠ [] := fun z => hn (List.map_eq_nil_iff.mp z)
    have h4 := cut4 hn2
    rw [List.length_map] at h4
    refine lpick_ok h4.1 (by omega) fun x hx => ?_
    obtain ⟨q, hq, rfl⟩ := List.mem_map.mp (h4.2.1 x hx)
    refine lcontr_ok ?_
    rw [scT_pc]
    exact key _ (hu q hq).ctr
  · rw [iteS_neg c]
    simp only [↓zHd0, zHp0, ↓zGd0, ↓zGd1, ↓zGd2, ↓zGd3, ↓zGd4, zGp0, startD, ↓List.map_cons, ↓List.map_nil, ↓List.length_cons, ↓List.length_nil, Nat.reduceAdd, Nat.reduceSub, Nat.sub_self, List.replicate, ↓List.cons_append, ↓List.nil_append, List.append_nil, ↓List.getElem?_cons_zero, ↓List.getElem?_cons_succ, ↓List.set_cons_zero, ↓List.set_cons_succ, wipeD, Bool.not_true, Bool.not_false, decide_true, decide_false, beq_self_eq_true, true_and, and_true, Nat.reduceLeDiff, toDs, toDk, toDs_sh, ↓zS_ii, ↓zS_bi, ↓zS_bb, ↓zS_tt, ↓zS_ll, ↓zS_lt, ↓zS_lk, ↓zS_cut3, ↓zS_r3, ↓zS_r3D, ↓zS_nonI, ↓zS_nonN, ↓zS_ownO]
    exact key p hp
theorem dp_2 {u0 : Nat} {W : DEnds} {v : V} {n m : Int} (n0 : 0 < n) (n1 : n ≤ 3) (m0 : 0 < m) (m1 : m ≤ 3) : ∀ (k : Nat) (j : Int) (u : List Pc) (o5 o6 : Option SD), Okl u → u.length + k ≤ 900 →
    (∀ u o5 o6, Okl u → u.length ≤ u0 + k → W.nx [some (.sh .bag), some (.sh (.int 5)), some (.ow v (shP u)), some (.sh (.int n)), some (.sh (.int m)), o5, o6]) → u.length ≤ u0 →
    forD (gN 5) b__law_drawn_pieces_1 W (ups j k) [some (.sh .bag), some (.sh (.int 5)), some (.ow v (shP u)), some (.sh (.int n)), some (.sh (.int m)), o5, o6]
  | 0, j, u, o5, o6, hu, hz, hN, h0 => hN u o5 o6 hu h0
  | k + 1, j, u, o5, o6, hu, hz, hN, h0 => by
    rw [ups_succ, forD_c]
    show b__law_drawn_pieces_1 _ [some (.sh .bag), some (.sh (.int 5)), some (.ow v (shP u)), some (.sh (.int n)), some (.sh (.int m)), some (.sh (.int j)), o6]
    refine dp_1 n0 n1 m0 m1 hu (by omega) fun p o6 hp => ?_
    refine dp_2 (u0 := u0 + 1) n0 n1 m0 m1 k (j + 1) (u ++ [p]) _ _ (okl_app hu fun x hx => by rw [List.mem_singleton.mp hx]; exact hp) (by rw [List.length_append, List.length_singleton]; omega) (fun u o5 o6 h1 h2 => hN u o5 o6 h1 (by omega)) (by rw [List.length_append, List.length_singleton]; omega)
theorem drawn_ok {Q : D → Prop} (hq : ∀ u, Okl u → u.length ≤ 5 → Q (lD u)) : S__law_drawn_pieces [.bag, .int 5] Q := by
  refine ⟨rfl, ?_⟩
  simp only [t__law_drawn_pieces, ↓zHd0, zHp0, ↓zGd0, ↓zGd1, ↓zGd2, ↓zGd3, ↓zGd4, zGp0, startD, ↓List.map_cons, ↓List.map_nil, ↓List.length_cons, ↓List.length_nil, Nat.reduceAdd, Nat.reduceSub, Nat.sub_self, List.replicate, ↓List.cons_append, ↓List.nil_append, List.append_nil, ↓List.getElem?_cons_zero, ↓List.getElem?_cons_succ, ↓List.set_cons_zero, ↓List.set_cons_succ, wipeD, Bool.not_true, Bool.not_false, decide_true, decide_false, beq_self_eq_true, true_and, and_true, Nat.reduceLeDiff, toDs, toDk, toDs_sh, ↓zS_ii, ↓zS_bi, ↓zS_bb, ↓zS_tt, ↓zS_ll, ↓zS_lt, ↓zS_lk, ↓zS_cut3, ↓zS_r3, ↓zS_r3D, ↓zS_nonI, ↓zS_nonN, ↓zS_ownO]
  refine take_ok (by decide) (by decide) fun n n0 n1 => ?_
  simp only [↓zHd0, zHp0, ↓zGd0, ↓zGd1, ↓zGd2, ↓zGd3, ↓zGd4, zGp0, startD, ↓List.map_cons, ↓List.map_nil, ↓List.length_cons, ↓List.length_nil, Nat.reduceAdd, Nat.reduceSub, Nat.sub_self, List.replicate, ↓List.cons_append, ↓List.nil_append, List.append_nil, ↓List.getElem?_cons_zero, ↓List.getElem?_cons_succ, ↓List.set_cons_zero, ↓List.set_cons_succ, wipeD, Bool.not_true, Bool.not_false, decide_true, decide_false, beq_self_eq_true, true_and, and_true, Nat.reduceLeDiff, toDs, toDk, toDs_sh, ↓zS_ii, ↓zS_bi, ↓zS_bb, ↓zS_tt, ↓zS_ll, ↓zS_lt, ↓zS_lk, ↓zS_cut3, ↓zS_r3, ↓zS_r3D, ↓zS_nonI, ↓zS_nonN, ↓zS_ownO]
  refine take_ok (by decide) (by decide) fun m m0 m1 => ?_
  simp only [↓zHd0, zHp0, ↓zGd0, ↓zGd1, ↓zGd2, ↓zGd3, ↓zGd4, zGp0, startD, ↓List.map_cons, ↓List.map_nil, ↓List.length_cons, ↓List.length_nil, Nat.reduceAdd, Nat.reduceSub, Nat.sub_self, List.replicate, ↓List.cons_append, ↓List.nil_append, List.append_nil, ↓List.getElem?_cons_zero, ↓List.getElem?_cons_succ, ↓List.set_cons_zero, ↓List.set_cons_succ, wipeD, Bool.not_true, Bool.not_false, decide_true, decide_false, beq_self_eq_true, true_and, and_true, Nat.reduceLeDiff, toDs, toDk, toDs_sh, ↓zS_ii, ↓zS_bi, ↓zS_bb, ↓zS_tt, ↓zS_ll, ↓zS_lt, ↓zS_lk, ↓zS_cut3, ↓zS_r3, ↓zS_r3D, ↓zS_nonI, ↓zS_nonN, ↓zS_ownO]
  intro v _ _
  refine take_ok (by decide) (by decide) fun k k0 k1 => ?_
  simp only [↓zHd0, zHp0, ↓zGd0, ↓zGd1, ↓zGd2, ↓zGd3, ↓zGd4, zGp0, startD, ↓List.map_cons, ↓List.map_nil, ↓List.length_cons, ↓List.length_nil, Nat.reduceAdd, Nat.reduceSub, Nat.sub_self, List.replicate, ↓List.cons_append, ↓List.nil_append, List.append_nil, ↓List.getElem?_cons_zero, ↓List.getElem?_cons_succ, ↓List.set_cons_zero, ↓List.set_cons_succ, wipeD, Bool.not_true, Bool.not_false, decide_true, decide_false, beq_self_eq_true, true_and, and_true, Nat.reduceLeDiff, toDs, toDk, toDs_sh, ↓zS_ii, ↓zS_bi, ↓zS_bb, ↓zS_tt, ↓zS_ll, ↓zS_lt, ↓zS_lk, ↓zS_cut3, ↓zS_r3, ↓zS_r3D, ↓zS_nonI, ↓zS_nonN, ↓zS_ownO]
  refine ⟨⟨by omega, by omega⟩, ?_⟩
  refine dp_2 (u0 := 0) (by omega) (by omega) (by omega) (by omega) k.toNat 0 [] none none (fun _ h => nomatch h) (by rw [List.length_nil]; omega) (fun u o5 o6 hu hl => ?_) (Nat.le_refl _)
  have et : OD.toD (shP u) = .lst (u.map pcD) := by rw [OD.toD, toDs_sh]
  simp only [et, ↓zHd0, zHp0, ↓zGd0, ↓zGd1, ↓zGd2, ↓zGd3, ↓zGd4, zGp0, startD, ↓List.map_cons, ↓List.map_nil, ↓List.length_cons, ↓List.length_nil, Nat.reduceAdd, Nat.reduceSub, Nat.sub_self, List.replicate, ↓List.cons_append, ↓List.nil_append, List.append_nil, ↓List.getElem?_cons_zero, ↓List.getElem?_cons_succ, ↓List.set_cons_zero, ↓List.set_cons_succ, wipeD, Bool.not_true, Bool.not_false, decide_true, decide_false, beq_self_eq_true, true_and, and_true, Nat.reduceLeDiff, toDs, toDk, toDs_sh, ↓zS_ii, ↓zS_bi, ↓zS_bb, ↓zS_tt, ↓zS_ll, ↓zS_lt, ↓zS_lk, ↓zS_cut3, ↓zS_r3, ↓zS_r3D, ↓zS_nonI, ↓zS_nonN, ↓zS_ownO]
  exact hq u hu (by omega)
theorem rOk_pure {d : D} (h : rOk d) : pureD d = true := by
  cases d with
  | obj _ _ => rw [rOk] at h; exact h.elim
  | ktup _ => rw [rOk] at h; exact h.elim
  | bag => rw [rOk] at h; exact h.elim
  | _ => rfl
theorem rOkL_mem : ∀ {xs : List D}, rOkL xs → ∀ x ∈ xs, rOk x
  | [], _, _, h => nomatch h
  | y :: ys, h, x, hx => by
    rw [rOkL] at h
    rcases List.mem_cons.mp hx with rfl | hx
    · exact h.1
    · exact rOkL_mem h.2 x hx
theorem rOkL_of : ∀ {xs : List D}, (∀ x ∈ xs, rOk x) → rOkL xs
  | [], _ => by rw [rOkL]; trivial
  | y :: ys, h => by
    rw [rOkL]
    exact ⟨h y List.mem_cons_self, rOkL_of fun x hx => h x (List.mem_cons_of_mem _ hx)⟩
theorem isA {T : String} {L : List Nat} {d : D} {Q : D → Prop} (h : rOk d) (q : Q (.bl (isi T d))) : isiA T L d Q := isiA_pure (rOk_pure h) q
def isIn (d : D) : Bool := isi "int" d && !isi "bool" d
def isCnt : D → Bool
  | .int i => decide (0 ≤ i)
  | _ => false
theorem integer_a {d : D} {Q : D → Prop} (h : rOk d) (hq : Q (.bl (isIn d))) : S_is_integer [d] Q := by
  refine ⟨rfl, ?_⟩
  simp only [t_is_integer, ↓zHd0, zHp0, ↓zGd0, ↓zGd1, ↓zGd2, ↓zGd3, ↓zGd4, zGp0, startD, ↓List.map_cons, ↓List.map_nil, ↓List.length_cons, ↓List.length_nil, Nat.reduceAdd, Nat.reduceSub, Nat.sub_self, List.replicate, ↓List.cons_append, ↓List.nil_append, List.append_nil, ↓List.getElem?_cons_zero, ↓List.getElem?_cons_succ, ↓List.set_cons_zero, ↓List.set_cons_succ, wipeD, Bool.not_true, Bool.not_false, decide_true, decide_false, beq_self_eq_true, true_and, and_true, Nat.reduceLeDiff, toDs, toDk, toDs_sh, ↓zS_ii, ↓zS_bi, ↓zS_bb, ↓zS_tt, ↓zS_ll, ↓zS_lt, ↓zS_lk, ↓zS_cut3, ↓zS_r3, ↓zS_r3D, ↓zS_nonI, ↓zS_nonN, ↓zS_ownO]
  refine isA h ?_
  unfold isIn at hq
  cases e : isi "int" d with
  | false =>
    rw [e] at hq
    simp only [↓zHd0, zHp0, ↓zGd0, ↓zGd1, ↓zGd2, ↓zGd3, ↓zGd4, zGp0, startD, ↓List.map_cons, ↓List.map_nil, ↓List.length_cons, ↓List.length_nil, Nat.reduceAdd, Nat.reduceSub, Nat.sub_self, List.replicate, ↓List.cons_append, ↓List.nil_append, List.append_nil, ↓List.getElem?_cons_zero, ↓List.getElem?_cons_succ, ↓List.set_cons_zero, ↓List.set_cons_succ, wipeD, Bool.not_true, Bool.not_false, decide_true, decide_false, beq_self_eq_true, true_and, and_true, Nat.reduceLeDiff, toDs, toDk, toDs_sh, ↓zS_ii, ↓zS_bi, ↓zS_bb, ↓zS_tt, ↓zS_ll, ↓zS_lt, ↓zS_lk, ↓zS_cut3, ↓zS_r3, ↓zS_r3D, ↓zS_nonI, ↓zS_nonN, ↓zS_ownO]
    exact hq
  | true =>
    rw [e] at hq
    simp only [↓zHd0, zHp0, ↓zGd0, ↓zGd1, ↓zGd2, ↓zGd3, ↓zGd4, zGp0, startD, ↓List.map_cons, ↓List.map_nil, ↓List.length_cons, ↓List.length_nil, Nat.reduceAdd, Nat.reduceSub, Nat.sub_self, List.replicate, ↓List.cons_append, ↓List.nil_append, List.append_nil, ↓List.getElem?_cons_zero, ↓List.getElem?_cons_succ, ↓List.set_cons_zero, ↓List.set_cons_succ, wipeD, Bool.not_true, Bool.not_false, decide_true, decide_false, beq_self_eq_true, true_and, and_true, Nat.reduceLeDiff, toDs, toDk, toDs_sh, ↓zS_ii, ↓zS_bi, ↓zS_bb, ↓zS_tt, ↓zS_ll, ↓zS_lt, ↓zS_lk, ↓zS_cut3, ↓zS_r3, ↓zS_r3D, ↓zS_nonI, ↓zS_nonN, ↓zS_ownO]
    refine isA h ?_
    simp only [↓zHd0, zHp0, ↓zGd0, ↓zGd1, ↓zGd2, ↓zGd3, ↓zGd4, zGp0, startD, ↓List.map_cons, ↓List.map_nil, ↓List.length_cons, ↓List.length_nil, Nat.reduceAdd, Nat.reduceSub, Nat.sub_self, List.replicate, ↓List.cons_append, ↓List.nil_append, List.append_nil, ↓List.getElem?_cons_zero, ↓List.getElem?_cons_succ, ↓List.set_cons_zero, ↓List.set_cons_succ, wipeD, Bool.not_true, Bool.not_false, decide_true, decide_false, beq_self_eq_true, true_and, and_true, Nat.reduceLeDiff, toDs, toDk, toDs_sh, ↓zS_ii, ↓zS_bi, ↓zS_bb, ↓zS_tt, ↓zS_ll, ↓zS_lt, ↓zS_lk, ↓zS_cut3, ↓zS_r3, ↓zS_r3D, ↓zS_nonI, ↓zS_nonN, ↓zS_ownO]
    exact hq
theorem isIn_i {i : Int} : isIn (.int i) = true := by rfl
theorem count_a {d : D} {Q : D → Prop} (h : rOk d) (hq : Q (.bl (isCnt d))) : S_is_count [d] Q := by
  refine ⟨rfl, ?_⟩
  simp only [t_is_count, ↓zHd0, zHp0, ↓zGd0, ↓zGd1, ↓zGd2, ↓zGd3, ↓zGd4, zGp0, startD, ↓List.map_cons, ↓List.map_nil, ↓List.length_cons, ↓List.length_nil, Nat.reduceAdd, Nat.reduceSub, Nat.sub_self, List.replicate, ↓List.cons_append, ↓List.nil_append, List.append_nil, ↓List.getElem?_cons_zero, ↓List.getElem?_cons_succ, ↓List.set_cons_zero, ↓List.set_cons_succ, wipeD, Bool.not_true, Bool.not_false, decide_true, decide_false, beq_self_eq_true, true_and, and_true, Nat.reduceLeDiff, toDs, toDk, toDs_sh, ↓zS_ii, ↓zS_bi, ↓zS_bb, ↓zS_tt, ↓zS_ll, ↓zS_lt, ↓zS_lk, ↓zS_cut3, ↓zS_r3, ↓zS_r3D, ↓zS_nonI, ↓zS_nonN, ↓zS_ownO]
  refine integer_a h ?_
  have no : isIn d = false → isCnt d = false → anE (D.bl (isIn d)) (dOp oGe (dVar 0) (dC (D.int 0))) [some (SD.sh d)] Q := fun e f => by
    rw [e]
    rw [f] at hq
    simp only [↓zHd0, zHp0, ↓zGd0, ↓zGd1, ↓zGd2, ↓zGd3, ↓zGd4, zGp0, startD, ↓List.map_cons, ↓List.map_nil, ↓List.length_cons, ↓List.length_nil, Nat.reduceAdd, Nat.reduceSub, Nat.sub_self, List.replicate, ↓List.cons_append, ↓List.nil_append, List.append_nil, ↓List.getElem?_cons_zero, ↓List.getElem?_cons_succ, ↓List.set_cons_zero, ↓List.set_cons_succ, wipeD, Bool.not_true, Bool.not_false, decide_true, decide_false, beq_self_eq_true, true_and, and_true, Nat.reduceLeDiff, toDs, toDk, toDs_sh, ↓zS_ii, ↓zS_bi, ↓zS_bb, ↓zS_tt, ↓zS_ll, ↓zS_lt, ↓zS_lk, ↓zS_cut3, ↓zS_r3, ↓zS_r3D, ↓zS_nonI, ↓zS_nonN, ↓zS_ownO]
    exact hq
  cases d with
  | int i =>
    rw [isIn_i]
    simp only [↓zHd0, zHp0, ↓zGd0, ↓zGd1, ↓zGd2, ↓zGd3, ↓zGd4, zGp0, startD, ↓List.map_cons, ↓List.map_nil, ↓List.length_cons, ↓List.length_nil, Nat.reduceAdd, Nat.reduceSub, Nat.sub_self, List.replicate, ↓List.cons_append, ↓List.nil_append, List.append_nil, ↓List.getElem?_cons_zero, ↓List.getElem?_cons_succ, ↓List.set_cons_zero, ↓List.set_cons_succ, wipeD, Bool.not_true, Bool.not_false, decide_true, decide_false, beq_self_eq_true, true_and, and_true, Nat.reduceLeDiff, toDs, toDk, toDs_sh, ↓zS_ii, ↓zS_bi, ↓zS_bb, ↓zS_tt, ↓zS_ll, ↓zS_lt, ↓zS_lk, ↓zS_cut3, ↓zS_r3, ↓zS_r3D, ↓zS_nonI, ↓zS_nonN, ↓zS_ownO]
    exact hq
  | non => exact no (by rfl) rfl
  | bl b => exact no (by rfl) rfl
  | str x => exact no (by rfl) rfl
  | lst x => exact no (by rfl) rfl
  | tup x => exact no (by rfl) rfl
  | dic x => exact no (by rfl) rfl
  | obj _ _ => rw [rOk] at h; exact h.elim
  | ktup _ => rw [rOk] at h; exact h.elim
  | bag => rw [rOk] at h; exact h.elim
def isPc : D → Bool
  | .tup [a, b, c, d] => isCnt a && isCnt b && isi "bool" c && isi "bool" d
  | _ => false
theorem isi_t {xs : List D} : isi "tuple" (.tup xs) = true := by rfl
theorem isi_nt {d : D} (h : ∀ xs, d ≠ .tup xs) (k : rOk d) : isi "tuple" d = false := by
  cases d with
  | tup xs => exact absurd rfl (h xs)
  | obj _ _ => rw [rOk] at k; exact k.elim
  | ktup _ => rw [rOk] at k; exact k.elim
  | bag => rw [rOk] at k; exact k.elim
  | _ => rfl
theorem piece_a {d : D} {Q : D → Prop} (h : rOk d) (hq : Q (.bl (isPc d))) : S_is_piece [d] Q := by
  refine ⟨rfl, ?_⟩
  simp only [t_is_piece, ↓zHd0, zHp0, ↓zGd0, ↓zGd1, ↓zGd2, ↓zGd3, ↓zGd4, zGp0, startD, ↓List.map_cons, ↓List.map_nil, ↓List.length_cons, ↓List.length_nil, Nat.reduceAdd, Nat.reduceSub, Nat.sub_self, List.replicate, ↓List.cons_append, ↓List.nil_append, List.append_nil, ↓List.getElem?_cons_zero, ↓List.getElem?_cons_succ, ↓List.set_cons_zero, ↓List.set_cons_succ, wipeD, Bool.not_true, Bool.not_false, decide_true, decide_false, beq_self_eq_true, true_and, and_true, Nat.reduceLeDiff, toDs, toDk, toDs_sh, ↓zS_ii, ↓zS_bi, ↓zS_bb, ↓zS_tt, ↓zS_ll, ↓zS_lt, ↓zS_lk, ↓zS_cut3, ↓zS_r3, ↓zS_r3D, ↓zS_nonI, ↓zS_nonN, ↓zS_ownO]
  refine isA h ?_
  by_cases ht : ∃ xs, d = .tup xs
  · obtain ⟨xs, rfl⟩ := ht
    rw [isi_t]
    simp only [↓zHd0, zHp0, ↓zGd0, ↓zGd1, ↓zGd2, ↓zGd3, ↓zGd4, zGp0, startD, ↓List.map_cons, ↓List.map_nil, ↓List.length_cons, ↓List.length_nil, Nat.reduceAdd, Nat.reduceSub, Nat.sub_self, List.replicate, ↓List.cons_append, ↓List.nil_append, List.append_nil, ↓List.getElem?_cons_zero, ↓List.getElem?_cons_succ, ↓List.set_cons_zero, ↓List.set_cons_succ, wipeD, Bool.not_true, Bool.not_false, decide_true, decide_false, beq_self_eq_true, true_and, and_true, Nat.reduceLeDiff, toDs, toDk, toDs_sh, ↓zS_ii, ↓zS_bi, ↓zS_bb, ↓zS_tt, ↓zS_ll, ↓zS_lt, ↓zS_lk, ↓zS_cut3, ↓zS_r3, ↓zS_r3D, ↓zS_nonI, ↓zS_nonN, ↓zS_ownO]
    match xs, h, hq with
    | [a, b, c, d], h, hq =>
      rw [rOk, rOkL, rOkL, rOkL, rOkL] at h
      obtain ⟨ha, hb, hc, hd, _⟩ := h
      rw [decide_eq_true (by rfl)]
      simp only [↓zHd0, zHp0, ↓zGd0, ↓zGd1, ↓zGd2, ↓zGd3, ↓zGd4, zGp0, startD, ↓List.map_cons, ↓List.map_nil, ↓List.length_cons, ↓List.length_nil, Nat.reduceAdd, Nat.reduceSub, Nat.sub_self, List.replicate, ↓List.cons_append, ↓List.nil_append, List.append_nil, ↓List.getElem?_cons_zero, ↓List.getElem?_cons_succ, ↓List.set_cons_zero, ↓List.set_cons_succ, wipeD, Bool.not_true, Bool.not_false, decide_true, decide_false, beq_self_eq_true, true_and, and_true, Nat.reduceLeDiff, toDs, toDk, toDs_sh, ↓zS_ii, ↓zS_bi, ↓zS_bb, ↓zS_tt, ↓zS_ll, ↓zS_lt, ↓zS_lk, ↓zS_cut3, ↓zS_r3, ↓zS_r3D, ↓zS_nonI, ↓zS_nonN, ↓zS_ownO]
      refine count_a ha ?_
      have hq : Q (.bl (isCnt a && isCnt b && isi "bool" c && isi "bool" d)) := hq
      cases ea : isCnt a with
      | false =>
        rw [ea] at hq
        simp only [↓zHd0, zHp0, ↓zGd0, ↓zGd1, ↓zGd2, ↓zGd3, ↓zGd4, zGp0, startD, ↓List.map_cons, ↓List.map_nil, ↓List.length_cons, ↓List.length_nil, Nat.reduceAdd, Nat.reduceSub, Nat.sub_self, List.replicate, ↓List.cons_append, ↓List.nil_append, List.append_nil, ↓List.getElem?_cons_zero, ↓List.getElem?_cons_succ, ↓List.set_cons_zero, ↓List.set_cons_succ, wipeD, Bool.not_true, Bool.not_false, decide_true, decide_false, beq_self_eq_true, true_and, and_true, Nat.reduceLeDiff, toDs, toDk, toDs_sh, ↓zS_ii, ↓zS_bi, ↓zS_bb, ↓zS_tt, ↓zS_ll, ↓zS_lt, ↓zS_lk, ↓zS_cut3, ↓zS_r3, ↓zS_r3D, ↓zS_nonI, ↓zS_nonN, ↓zS_ownO]
        exact hq
      | true =>
        rw [ea] at hq
        simp only [↓zHd0, zHp0, ↓zGd0, ↓zGd1, ↓zGd2, ↓zGd3, ↓zGd4, zGp0, startD, ↓List.map_cons, ↓List.map_nil, ↓List.length_cons, ↓List.length_nil, Nat.reduceAdd, Nat.reduceSub, Nat.sub_self, List.replicate, ↓List.cons_append, ↓List.nil_append, List.append_nil, ↓List.getElem?_cons_zero, ↓List.getElem?_cons_succ, ↓List.set_cons_zero, ↓List.set_cons_succ, wipeD, Bool.not_true, Bool.not_false, decide_true, decide_false, beq_self_eq_true, true_and, and_true, Nat.reduceLeDiff, toDs, toDk, toDs_sh, ↓zS_ii, ↓zS_bi, ↓zS_bb, ↓zS_tt, ↓zS_ll, ↓zS_lt, ↓zS_lk, ↓zS_cut3, ↓zS_r3, ↓zS_r3D, ↓zS_nonI, ↓zS_nonN, ↓zS_ownO]
        refine count_a hb ?_
        cases eb : isCnt b with
        | false =>
          rw [eb] at hq
          simp only [↓zHd0, zHp0, ↓zGd0, ↓zGd1, ↓zGd2, ↓zGd3, ↓zGd4, zGp0, startD, ↓List.map_cons, ↓List.map_nil, ↓List.length_cons, ↓List.length_nil, Nat.reduceAdd, Nat.reduceSub, Nat.sub_self, List.replicate, ↓List.cons_append, ↓List.nil_append, List.append_nil, ↓List.getElem?_cons_zero, ↓List.getElem?_cons_succ, ↓List.set_cons_zero, ↓List.set_cons_succ, wipeD, Bool.not_true, Bool.not_false, decide_true, decide_false, beq_self_eq_true, true_and, and_true, Nat.reduceLeDiff, toDs, toDk, toDs_sh, ↓zS_ii, ↓zS_bi, ↓zS_bb, ↓zS_tt, ↓zS_ll, ↓zS_lt, ↓zS_lk, ↓zS_cut3, ↓zS_r3, ↓zS_r3D, ↓zS_nonI, ↓zS_nonN, ↓zS_ownO]
          exact hq
        | true =>
          rw [eb] at hq
          simp only [↓zHd0, zHp0, ↓zGd0, ↓zGd1, ↓zGd2, ↓zGd3, ↓zGd4, zGp0, startD, ↓List.map_cons, ↓List.map_nil, ↓List.length_cons, ↓List.length_nil, Nat.reduceAdd, Nat.reduceSub, Nat.sub_self, List.replicate, ↓List.cons_append, ↓List.nil_append, List.append_nil, ↓List.getElem?_cons_zero, ↓List.getElem?_cons_succ, ↓List.set_cons_zero, ↓List.set_cons_succ, wipeD, Bool.not_true, Bool.not_false, decide_true, decide_false, beq_self_eq_true, true_and, and_true, Nat.reduceLeDiff, toDs, toDk, toDs_sh, ↓zS_ii, ↓zS_bi, ↓zS_bb, ↓zS_tt, ↓zS_ll, ↓zS_lt, ↓zS_lk, ↓zS_cut3, ↓zS_r3, ↓zS_r3D, ↓zS_nonI, ↓zS_nonN, ↓zS_ownO]
          refine isA hc ?_
          cases ec : isi "bool" c with
          | false =>
            rw [ec] at hq
            simp only [↓zHd0, zHp0, ↓zGd0, ↓zGd1, ↓zGd2, ↓zGd3, ↓zGd4, zGp0, startD, ↓List.map_cons, ↓List.map_nil, ↓List.length_cons, ↓List.length_nil, Nat.reduceAdd, Nat.reduceSub, Nat.sub_self, List.replicate, ↓List.cons_append, ↓List.nil_append, List.append_nil, ↓List.getElem?_cons_zero, ↓List.getElem?_cons_succ, ↓List.set_cons_zero, ↓List.set_cons_succ, wipeD, Bool.not_true, Bool.not_false, decide_true, decide_false, beq_self_eq_true, true_and, and_true, Nat.reduceLeDiff, toDs, toDk, toDs_sh, ↓zS_ii, ↓zS_bi, ↓zS_bb, ↓zS_tt, ↓zS_ll, ↓zS_lt, ↓zS_lk, ↓zS_cut3, ↓zS_r3, ↓zS_r3D, ↓zS_nonI, ↓zS_nonN, ↓zS_ownO]
            exact hq
          | true =>
            rw [ec] at hq
            simp only [↓zHd0, zHp0, ↓zGd0, ↓zGd1, ↓zGd2, ↓zGd3, ↓zGd4, zGp0, startD, ↓List.map_cons, ↓List.map_nil, ↓List.length_cons, ↓List.length_nil, Nat.reduceAdd, Nat.reduceSub, Nat.sub_self, List.replicate, ↓List.cons_append, ↓List.nil_append, List.append_nil, ↓List.getElem?_cons_zero, ↓List.getElem?_cons_succ, ↓List.set_cons_zero, ↓List.set_cons_succ, wipeD, Bool.not_true, Bool.not_false, decide_true, decide_false, beq_self_eq_true, true_and, and_true, Nat.reduceLeDiff, toDs, toDk, toDs_sh, ↓zS_ii, ↓zS_bi, ↓zS_bb, ↓zS_tt, ↓zS_ll, ↓zS_lt, ↓zS_lk, ↓zS_cut3, ↓zS_r3, ↓zS_r3D, ↓zS_nonI, ↓zS_nonN, ↓zS_ownO]
            refine isA hd ?_
            exact hq
    | [], _, hq => rw [decide_eq_false (by simp)]; simp only [↓zHd0, zHp0, ↓zGd0, ↓zGd1, ↓zGd2, ↓zGd3, ↓zGd4, zGp0, startD, ↓List.map_cons, ↓List.map_nil, ↓List.length_cons, ↓List.length_nil, Nat.reduceAdd, Nat.reduceSub, Nat.sub_self, List.replicate, ↓List.cons_append, ↓List.nil_append, List.append_nil, ↓List.getElem?_cons_zero, ↓List.getElem?_cons_succ, ↓List.set_cons_zero, ↓List.set_cons_succ, wipeD, Bool.not_true, Bool.not_false, decide_true, decide_false, beq_self_eq_true, true_and, and_true, Nat.reduceLeDiff, toDs, toDk, toDs_sh, ↓zS_ii, ↓zS_bi, ↓zS_bb, ↓zS_tt, ↓zS_ll, ↓zS_lt, ↓zS_lk, ↓zS_cut3, ↓zS_r3, ↓zS_r3D, ↓zS_nonI, ↓zS_nonN, ↓zS_ownO]; exact hq
    | [_], _, hq => rw [decide_eq_false (by simp)]; simp only [↓zHd0, zHp0, ↓zGd0, ↓zGd1, ↓zGd2, ↓zGd3, ↓zGd4, zGp0, startD, ↓List.map_cons, ↓List.map_nil, ↓List.length_cons, ↓List.length_nil, Nat.reduceAdd, Nat.reduceSub, Nat.sub_self, List.replicate, ↓List.cons_append, ↓List.nil_append, List.append_nil, ↓List.getElem?_cons_zero, ↓List.getElem?_cons_succ, ↓List.set_cons_zero, ↓List.set_cons_succ, wipeD, Bool.not_true, Bool.not_false, decide_true, decide_false, beq_self_eq_true, true_and, and_true, Nat.reduceLeDiff, toDs, toDk, toDs_sh, ↓zS_ii, ↓zS_bi, ↓zS_bb, ↓zS_tt, ↓zS_ll, ↓zS_lt, ↓zS_lk, ↓zS_cut3, ↓zS_r3, ↓zS_r3D, ↓zS_nonI, ↓zS_nonN, ↓zS_ownO]; exact hq
    | [_, _], _, hq => rw [decide_eq_false (by simp)]; simp only [↓zHd0, zHp0, ↓zGd0, ↓zGd1, ↓zGd2, ↓zGd3, ↓zGd4, zGp0, startD, ↓List.map_cons, ↓List.map_nil, ↓List.length_cons, ↓List.length_nil, Nat.reduceAdd, Nat.reduceSub, Nat.sub_self, List.replicate, ↓List.cons_append, ↓List.nil_append, List.append_nil, ↓List.getElem?_cons_zero, ↓List.getElem?_cons_succ, ↓List.set_cons_zero, ↓List.set_cons_succ, wipeD, Bool.not_true, Bool.not_false, decide_true, decide_false, beq_self_eq_true, true_and, and_true, Nat.reduceLeDiff, toDs, toDk, toDs_sh, ↓zS_ii, ↓zS_bi, ↓zS_bb, ↓zS_tt, ↓zS_ll, ↓zS_lt, ↓zS_lk, ↓zS_cut3, ↓zS_r3, ↓zS_r3D, ↓zS_nonI, ↓zS_nonN, ↓zS_ownO]; exact hq
    | [_, _, _], _, hq => rw [decide_eq_false (by simp)]; simp only [↓zHd0, zHp0, ↓zGd0, ↓zGd1, ↓zGd2, ↓zGd3, ↓zGd4, zGp0, startD, ↓List.map_cons, ↓List.map_nil, ↓List.length_cons, ↓List.length_nil, Nat.reduceAdd, Nat.reduceSub, Nat.sub_self, List.replicate, ↓List.cons_append, ↓List.nil_append, List.append_nil, ↓List.getElem?_cons_zero, ↓List.getElem?_cons_succ, ↓List.set_cons_zero, ↓List.set_cons_succ, wipeD, Bool.not_true, Bool.not_false, decide_true, decide_false, beq_self_eq_true, true_and, and_true, Nat.reduceLeDiff, toDs, toDk, toDs_sh, ↓zS_ii, ↓zS_bi, ↓zS_bb, ↓zS_tt, ↓zS_ll, ↓zS_lt, ↓zS_lk, ↓zS_cut3, ↓zS_r3, ↓zS_r3D, ↓zS_nonI, ↓zS_nonN, ↓zS_ownO]; exact hq
    | _ :: _ :: _ :: _ :: _ :: r, _, hq => rw [decide_eq_false (by simp only [List.length_cons]; omega)]; simp only [↓zHd0, zHp0, ↓zGd0, ↓zGd1, ↓zGd2, ↓zGd3, ↓zGd4, zGp0, startD, ↓List.map_cons, ↓List.map_nil, ↓List.length_cons, ↓List.length_nil, Nat.reduceAdd, Nat.reduceSub, Nat.sub_self, List.replicate, ↓List.cons_append, ↓List.nil_append, List.append_nil, ↓List.getElem?_cons_zero, ↓List.getElem?_cons_succ, ↓List.set_cons_zero, ↓List.set_cons_succ, wipeD, Bool.not_true, Bool.not_false, decide_true, decide_false, beq_self_eq_true, true_and, and_true, Nat.reduceLeDiff, toDs, toDk, toDs_sh, ↓zS_ii, ↓zS_bi, ↓zS_bb, ↓zS_tt, ↓zS_ll, ↓zS_lt, ↓zS_lk, ↓zS_cut3, ↓zS_r3, ↓zS_r3D, ↓zS_nonI, ↓zS_nonN, ↓zS_ownO]; exact hq
  · rw [isi_nt (fun xs e => ht ⟨xs, e⟩) h]
    have e : isPc d = false := by
      cases d with
      | tup xs => exact absurd ⟨xs, rfl⟩ ht
      | _ => rfl
    rw [e] at hq
    simp only [↓zHd0, zHp0, ↓zGd0, ↓zGd1, ↓zGd2, ↓zGd3, ↓zGd4, zGp0, startD, ↓List.map_cons, ↓List.map_nil, ↓List.length_cons, ↓List.length_nil, Nat.reduceAdd, Nat.reduceSub, Nat.sub_self, List.replicate, ↓List.cons_append, ↓List.nil_append, List.append_nil, ↓List.getElem?_cons_zero, ↓List.getElem?_cons_succ, ↓List.set_cons_zero, ↓List.set_cons_succ, wipeD, Bool.not_true, Bool.not_false, decide_true, decide_false, beq_self_eq_true, true_and, and_true, Nat.reduceLeDiff, toDs, toDk, toDs_sh, ↓zS_ii, ↓zS_bi, ↓zS_bb, ↓zS_tt, ↓zS_ll, ↓zS_lt, ↓zS_lk, ↓zS_cut3, ↓zS_r3, ↓zS_r3D, ↓zS_nonI, ↓zS_nonN, ↓zS_ownO]
    exact hq
def arePc : D → Bool
  | .lst xs => xs.all isPc
  | .tup xs => xs.all isPc
  | _ => false
theorem bls_map {α : Type} (p : α → Bool) : ∀ ys : List α, blsOf (ys.map fun y => D.bl (p y)) = some (ys.map p)
  | [] => rfl
  | y :: ys => by
    have ih := bls_map p ys
    rw [List.map_cons, List.map_cons]
    simp only [blsOf, ih]
    try rfl
theorem all_of {α : Type} {p : α → Bool} {xs : List α} {Q : D → Prop} (hq : Q (.bl (xs.all p))) : cAll [.lst (xs.map fun x => D.bl (p x))] Q := by
  show (match blsOf (xs.map fun x => D.bl (p x)) with | some bs => Q (.bl (bs.all id)) | none => False)
  rw [bls_map]
  have e : (xs.map p).all id = xs.all p := by rw [List.all_map]; rfl
  show Q (.bl ((xs.map p).all id))
  rw [e]
  exact hq
theorem isi2_no {d : D} (h1 : ∀ xs, d ≠ .lst xs) (h2 : ∀ xs, d ≠ .tup xs) (k : rOk d) : isi2 "list" "tuple" d = false ∧ arePc d = false := by
  cases d with
  | lst xs => exact absurd rfl (h1 xs)
  | tup xs => exact absurd rfl (h2 xs)
  | obj _ _ => rw [rOk] at k; exact k.elim
  | ktup _ => rw [rOk] at k; exact k.elim
  | bag => rw [rOk] at k; exact k.elim
  | _ => exact ⟨rfl, rfl⟩
theorem is2A {d : D} {Q : D → Prop} (h : rOk d) (q : Q (.bl (isi2 "list" "tuple" d))) : isi2A "list" "tuple" [5] d Q := isi2A_pure (by
  cases d with
  | obj _ _ => rw [rOk] at h; exact h.elim
  | ktup _ => rw [rOk] at h; exact h.elim
  | bag => rw [rOk] at h; exact h.elim
  | _ => rfl) q
theorem are_seq {d : D} {xs : List D} {Q : D → Prop} (h : ∀ x ∈ xs, rOk x) (hl : xs.length ≤ 100000) (hi : isi2A "list" "tuple" [5] d = fun Q => isi2A "list" "tuple" [5] (.lst xs) Q) (hs : ∀ QL : List D → Prop, QL xs → seqQ d QL) (hq : Q (.bl (xs.all isPc))) : S_are_pieces [d] Q := by
  refine ⟨rfl, ?_⟩
  simp only [t_are_pieces, ↓zHd0, zHp0, ↓zGd0, ↓zGd1, ↓zGd2, ↓zGd3, ↓zGd4, zGp0, startD, ↓List.map_cons, ↓List.map_nil, ↓List.length_cons, ↓List.length_nil, Nat.reduceAdd, Nat.reduceSub, Nat.sub_self, List.replicate, ↓List.cons_append, ↓List.nil_append, List.append_nil, ↓List.getElem?_cons_zero, ↓List.getElem?_cons_succ, ↓List.set_cons_zero, ↓List.set_cons_succ, wipeD, Bool.not_true, Bool.not_false, decide_true, decide_false, beq_self_eq_true, true_and, and_true, Nat.reduceLeDiff, toDs, toDk, toDs_sh, ↓zS_ii, ↓zS_bi, ↓zS_bb, ↓zS_tt, ↓zS_ll, ↓zS_lt, ↓zS_lk, ↓zS_cut3, ↓zS_r3, ↓zS_r3D, ↓zS_nonI, ↓zS_nonN, ↓zS_ownO]
  rw [hi]
  simp only [zS_ll, ↓zHd0, zHp0, ↓zGd0, ↓zGd1, ↓zGd2, ↓zGd3, ↓zGd4, zGp0, startD, ↓List.map_cons, ↓List.map_nil, ↓List.length_cons, ↓List.length_nil, Nat.reduceAdd, Nat.reduceSub, Nat.sub_self, List.replicate, ↓List.cons_append, ↓List.nil_append, List.append_nil, ↓List.getElem?_cons_zero, ↓List.getElem?_cons_succ, ↓List.set_cons_zero, ↓List.set_cons_succ, wipeD, Bool.not_true, Bool.not_false, decide_true, decide_false, beq_self_eq_true, true_and, and_true, Nat.reduceLeDiff, toDs, toDk, toDs_sh, ↓zS_ii, ↓zS_bi, ↓zS_bb, ↓zS_tt, ↓zS_ll, ↓zS_lt, ↓zS_lk, ↓zS_cut3, ↓zS_r3, ↓zS_r3D, ↓zS_nonI, ↓zS_nonN, ↓zS_ownO]
  refine hs _ ⟨by rw [sizeLine_eq]; omega, ?_⟩
  have e : xs = xs.map id := by rw [List.map_id]
  rw [e]
  refine lc_of (α := D) id (fun x => .bl (isPc x)) xs [] (fun x hx R hR => ?_) ?_
  · simp only [↓zHd0, zHp0, ↓zGd0, ↓zGd1, ↓zGd2, ↓zGd3, ↓zGd4, zGp0, startD, ↓List.map_cons, ↓List.map_nil, ↓List.length_cons, ↓List.length_nil, Nat.reduceAdd, Nat.reduceSub, Nat.sub_self, List.replicate, ↓List.cons_append, ↓List.nil_append, List.append_nil, ↓List.getElem?_cons_zero, ↓List.getElem?_cons_succ, ↓List.set_cons_zero, ↓List.set_cons_succ, wipeD, Bool.not_true, Bool.not_false, decide_true, decide_false, beq_self_eq_true, true_and, and_true, Nat.reduceLeDiff, toDs, toDk, toDs_sh, ↓zS_ii, ↓zS_bi, ↓zS_bb, ↓zS_tt, ↓zS_ll, ↓zS_lt, ↓zS_lk, ↓zS_cut3, ↓zS_r3, ↓zS_r3D, ↓zS_nonI, ↓zS_nonN, ↓zS_ownO]
    exact piece_a (h x hx) hR
  · exact all_of hq
theorem are_a {d : D} {Q : D → Prop} (h : rOk d) (hl : ∀ xs, d = .lst xs ∨ d = .tup xs → xs.length ≤ 100000) (hq : Q (.bl (arePc d))) : S_are_pieces [d] Q := by
  by_cases h1 : ∃ xs, d = .lst xs
  · obtain ⟨xs, rfl⟩ := h1
    rw [rOk] at h
    exact are_seq (rOkL_mem h) (hl xs (.inl rfl)) rfl (fun _ q => q) hq
  · by_cases h2 : ∃ xs, d = .tup xs
    · obtain ⟨xs, rfl⟩ := h2
      rw [rOk] at h
      refine are_seq (rOkL_mem h) (hl xs (.inr rfl)) (funext fun Q => ?_) (fun _ q => q) hq
      exact propext Iff.rfl
    · refine ⟨rfl, ?_⟩
      simp only [t_are_pieces, ↓zHd0, zHp0, ↓zGd0, ↓zGd1, ↓zGd2, ↓zGd3, ↓zGd4, zGp0, startD, ↓List.map_cons, ↓List.map_nil, ↓List.length_cons, ↓List.length_nil, Nat.reduceAdd, Nat.reduceSub, Nat.sub_self, List.replicate, ↓List.cons_append, ↓List.nil_append, List.append_nil, ↓List.getElem?_cons_zero, ↓List.getElem?_cons_succ, ↓List.set_cons_zero, ↓List.set_cons_succ, wipeD, Bool.not_true, Bool.not_false, decide_true, decide_false, beq_self_eq_true, true_and, and_true, Nat.reduceLeDiff, toDs, toDk, toDs_sh, ↓zS_ii, ↓zS_bi, ↓zS_bb, ↓zS_tt, ↓zS_ll, ↓zS_lt, ↓zS_lk, ↓zS_cut3, ↓zS_r3, ↓zS_r3D, ↓zS_nonI, ↓zS_nonN, ↓zS_ownO]
      obtain ⟨e1, e2⟩ := isi2_no (fun xs e => h1 ⟨xs, e⟩) (fun xs e => h2 ⟨xs, e⟩) h
      refine is2A h ?_
      rw [e1]
      rw [e2] at hq
      simp only [↓zHd0, zHp0, ↓zGd0, ↓zGd1, ↓zGd2, ↓zGd3, ↓zGd4, zGp0, startD, ↓List.map_cons, ↓List.map_nil, ↓List.length_cons, ↓List.length_nil, Nat.reduceAdd, Nat.reduceSub, Nat.sub_self, List.replicate, ↓List.cons_append, ↓List.nil_append, List.append_nil, ↓List.getElem?_cons_zero, ↓List.getElem?_cons_succ, ↓List.set_cons_zero, ↓List.set_cons_succ, wipeD, Bool.not_true, Bool.not_false, decide_true, decide_false, beq_self_eq_true, true_and, and_true, Nat.reduceLeDiff, toDs, toDk, toDs_sh, ↓zS_ii, ↓zS_bi, ↓zS_bb, ↓zS_tt, ↓zS_ll, ↓zS_lt, ↓zS_lk, ↓zS_cut3, ↓zS_r3, ↓zS_r3D, ↓zS_nonI, ↓zS_nonN, ↓zS_ownO]
      exact hq
theorem bd_bool (x : D) : (!isBD true x && !isBD false x) = !isi "bool" x := by
  cases x with
  | bl b => cases b <;> rfl
  | _ => rfl
theorem nums_a {a b : D} {W : List D → Prop} {δ : DS} {o1 : Option SD} {t : D} (hδ : δ = [some (.sh t), o1, none]) (ha : rOk a) (hb : rOk b) (k : W ([a, b].filter isCnt)) :
    lcD (gN 2) (tAn (tBl (dIsiA "int" [5] (dVar 2))) (tAn (tNt (tBl (dIsiA "bool" [5] (dVar 2)))) (tBl (dOp oGe (dVar 2) (dC (D.int 0)))))) (dVar 2) δ W [a, b] [] := by
  subst hδ
  have e : [a, b] = [a, b].map id := by rw [List.map_id]
  rw [e]
  refine lc_fofG (β := D) id id (fun y => [some (.sh t), o1, some (.sh y)]) isCnt [a, b] [] (fun y _ F hF => ?_) (fun y hy R hR => ?_) (fun y _ _ R hR => ?_) ?_
  · exact hF
  · have hy : rOk y := by
      rcases List.mem_cons.mp hy with rfl | hy
      · exact ha
      · rcases List.mem_cons.mp hy with rfl | hy
        · exact hb
        · exact nomatch hy
    simp only [↓zHd0, zHp0, ↓zGd0, ↓zGd1, ↓zGd2, ↓zGd3, ↓zGd4, zGp0, startD, ↓List.map_cons, ↓List.map_nil, ↓List.length_cons, ↓List.length_nil, Nat.reduceAdd, Nat.reduceSub, Nat.sub_self, List.replicate, ↓List.cons_append, ↓List.nil_append, List.append_nil, ↓List.getElem?_cons_zero, ↓List.getElem?_cons_succ, ↓List.set_cons_zero, ↓List.set_cons_succ, wipeD, Bool.not_true, Bool.not_false, decide_true, decide_false, beq_self_eq_true, true_and, and_true, Nat.reduceLeDiff, toDs, toDk, toDs_sh, ↓zS_ii, ↓zS_bi, ↓zS_bb, ↓zS_tt, ↓zS_ll, ↓zS_lt, ↓zS_lk, ↓zS_cut3, ↓zS_r3, ↓zS_r3D, ↓zS_nonI, ↓zS_nonN, ↓zS_ownO]
    refine isA hy ?_
    cases y with
    | int i =>
      simp only [zS_ii, zS_bi, ↓zHd0, zHp0, ↓zGd0, ↓zGd1, ↓zGd2, ↓zGd3, ↓zGd4, zGp0, startD, ↓List.map_cons, ↓List.map_nil, ↓List.length_cons, ↓List.length_nil, Nat.reduceAdd, Nat.reduceSub, Nat.sub_self, List.replicate, ↓List.cons_append, ↓List.nil_append, List.append_nil, ↓List.getElem?_cons_zero, ↓List.getElem?_cons_succ, ↓List.set_cons_zero, ↓List.set_cons_succ, wipeD, Bool.not_true, Bool.not_false, decide_true, decide_false, beq_self_eq_true, true_and, and_true, Nat.reduceLeDiff, toDs, toDk, toDs_sh, ↓zS_ii, ↓zS_bi, ↓zS_bb, ↓zS_tt, ↓zS_ll, ↓zS_lt, ↓zS_lk, ↓zS_cut3, ↓zS_r3, ↓zS_r3D, ↓zS_nonI, ↓zS_nonN, ↓zS_ownO]
      exact hR
    | bl b =>
      have e1 : isi "int" (.bl b) = true := by rfl
      simp only [e1, zS_bb, ↓zHd0, zHp0, ↓zGd0, ↓zGd1, ↓zGd2, ↓zGd3, ↓zGd4, zGp0, startD, ↓List.map_cons, ↓List.map_nil, ↓List.length_cons, ↓List.length_nil, Nat.reduceAdd, Nat.reduceSub, Nat.sub_self, List.replicate, ↓List.cons_append, ↓List.nil_append, List.append_nil, ↓List.getElem?_cons_zero, ↓List.getElem?_cons_succ, ↓List.set_cons_zero, ↓List.set_cons_succ, wipeD, Bool.not_true, Bool.not_false, decide_true, decide_false, beq_self_eq_true, true_and, and_true, Nat.reduceLeDiff, toDs, toDk, toDs_sh, ↓zS_ii, ↓zS_bi, ↓zS_bb, ↓zS_tt, ↓zS_ll, ↓zS_lt, ↓zS_lk, ↓zS_cut3, ↓zS_r3, ↓zS_r3D, ↓zS_nonI, ↓zS_nonN, ↓zS_ownO]
      exact hR
    | obj _ _ => rw [rOk] at hy; exact hy.elim
    | ktup _ => rw [rOk] at hy; exact hy.elim
    | bag => rw [rOk] at hy; exact hy.elim
    | non => (have e1 : isi "int" D.non = false := by rfl); simp only [e1, ↓zHd0, zHp0, ↓zGd0, ↓zGd1, ↓zGd2, ↓zGd3, ↓zGd4, zGp0, startD, ↓List.map_cons, ↓List.map_nil, ↓List.length_cons, ↓List.length_nil, Nat.reduceAdd, Nat.reduceSub, Nat.sub_self, List.replicate, ↓List.cons_append, ↓List.nil_append, List.append_nil, ↓List.getElem?_cons_zero, ↓List.getElem?_cons_succ, ↓List.set_cons_zero, ↓List.set_cons_succ, wipeD, Bool.not_true, Bool.not_false, decide_true, decide_false, beq_self_eq_true, true_and, and_true, Nat.reduceLeDiff, toDs, toDk, toDs_sh, ↓zS_ii, ↓zS_bi, ↓zS_bb, ↓zS_tt, ↓zS_ll, ↓zS_lt, ↓zS_lk, ↓zS_cut3, ↓zS_r3, ↓zS_r3D, ↓zS_nonI, ↓zS_nonN, ↓zS_ownO]; exact hR
    | str x => (have e1 : isi "int" (D.str x) = false := by rfl); simp only [e1, ↓zHd0, zHp0, ↓zGd0, ↓zGd1, ↓zGd2, ↓zGd3, ↓zGd4, zGp0, startD, ↓List.map_cons, ↓List.map_nil, ↓List.length_cons, ↓List.length_nil, Nat.reduceAdd, Nat.reduceSub, Nat.sub_self, List.replicate, ↓List.cons_append, ↓List.nil_append, List.append_nil, ↓List.getElem?_cons_zero, ↓List.getElem?_cons_succ, ↓List.set_cons_zero, ↓List.set_cons_succ, wipeD, Bool.not_true, Bool.not_false, decide_true, decide_false, beq_self_eq_true, true_and, and_true, Nat.reduceLeDiff, toDs, toDk, toDs_sh, ↓zS_ii, ↓zS_bi, ↓zS_bb, ↓zS_tt, ↓zS_ll, ↓zS_lt, ↓zS_lk, ↓zS_cut3, ↓zS_r3, ↓zS_r3D, ↓zS_nonI, ↓zS_nonN, ↓zS_ownO]; exact hR
    | lst x => (have e1 : isi "int" (D.lst x) = false := by rfl); simp only [e1, ↓zHd0, zHp0, ↓zGd0, ↓zGd1, ↓zGd2, ↓zGd3, ↓zGd4, zGp0, startD, ↓List.map_cons, ↓List.map_nil, ↓List.length_cons, ↓List.length_nil, Nat.reduceAdd, Nat.reduceSub, Nat.sub_self, List.replicate, ↓List.cons_append, ↓List.nil_append, List.append_nil, ↓List.getElem?_cons_zero, ↓List.getElem?_cons_succ, ↓List.set_cons_zero, ↓List.set_cons_succ, wipeD, Bool.not_true, Bool.not_false, decide_true, decide_false, beq_self_eq_true, true_and, and_true, Nat.reduceLeDiff, toDs, toDk, toDs_sh, ↓zS_ii, ↓zS_bi, ↓zS_bb, ↓zS_tt, ↓zS_ll, ↓zS_lt, ↓zS_lk, ↓zS_cut3, ↓zS_r3, ↓zS_r3D, ↓zS_nonI, ↓zS_nonN, ↓zS_ownO]; exact hR
    | tup x => (have e1 : isi "int" (D.tup x) = false := by rfl); simp only [e1, ↓zHd0, zHp0, ↓zGd0, ↓zGd1, ↓zGd2, ↓zGd3, ↓zGd4, zGp0, startD, ↓List.map_cons, ↓List.map_nil, ↓List.length_cons, ↓List.length_nil, Nat.reduceAdd, Nat.reduceSub, Nat.sub_self, List.replicate, ↓List.cons_append, ↓List.nil_append, List.append_nil, ↓List.getElem?_cons_zero, ↓List.getElem?_cons_succ, ↓List.set_cons_zero, ↓List.set_cons_succ, wipeD, Bool.not_true, Bool.not_false, decide_true, decide_false, beq_self_eq_true, true_and, and_true, Nat.reduceLeDiff, toDs, toDk, toDs_sh, ↓zS_ii, ↓zS_bi, ↓zS_bb, ↓zS_tt, ↓zS_ll, ↓zS_lt, ↓zS_lk, ↓zS_cut3, ↓zS_r3, ↓zS_r3D, ↓zS_nonI, ↓zS_nonN, ↓zS_ownO]; exact hR
    | dic x => (have e1 : isi "int" (D.dic x) = false := by rfl); simp only [e1, ↓zHd0, zHp0, ↓zGd0, ↓zGd1, ↓zGd2, ↓zGd3, ↓zGd4, zGp0, startD, ↓List.map_cons, ↓List.map_nil, ↓List.length_cons, ↓List.length_nil, Nat.reduceAdd, Nat.reduceSub, Nat.sub_self, List.replicate, ↓List.cons_append, ↓List.nil_append, List.append_nil, ↓List.getElem?_cons_zero, ↓List.getElem?_cons_succ, ↓List.set_cons_zero, ↓List.set_cons_succ, wipeD, Bool.not_true, Bool.not_false, decide_true, decide_false, beq_self_eq_true, true_and, and_true, Nat.reduceLeDiff, toDs, toDk, toDs_sh, ↓zS_ii, ↓zS_bi, ↓zS_bb, ↓zS_tt, ↓zS_ll, ↓zS_lt, ↓zS_lk, ↓zS_cut3, ↓zS_r3, ↓zS_r3D, ↓zS_nonI, ↓zS_nonN, ↓zS_ownO]; exact hR
  · simp only [↓zHd0, zHp0, ↓zGd0, ↓zGd1, ↓zGd2, ↓zGd3, ↓zGd4, zGp0, startD, ↓List.map_cons, ↓List.map_nil, ↓List.length_cons, ↓List.length_nil, Nat.reduceAdd, Nat.reduceSub, Nat.sub_self, List.replicate, ↓List.cons_append, ↓List.nil_append, List.append_nil, ↓List.getElem?_cons_zero, ↓List.getElem?_cons_succ, ↓List.set_cons_zero, ↓List.set_cons_succ, wipeD, Bool.not_true, Bool.not_false, decide_true, decide_false, beq_self_eq_true, true_and, and_true, Nat.reduceLeDiff, toDs, toDk, toDs_sh, ↓zS_ii, ↓zS_bi, ↓zS_bb, ↓zS_tt, ↓zS_ll, ↓zS_lt, ↓zS_lk, ↓zS_cut3, ↓zS_r3, ↓zS_r3D, ↓zS_nonI, ↓zS_nonN, ↓zS_ownO]
    exact hR
  · rw [List.nil_append, List.map_id]
    exact k
theorem bits_a {c d : D} {W : List D → Prop} {δ : DS} {o1 : Option SD} {t : D} (hδ : δ = [some (.sh t), o1, none]) (k : W ([c, d].filter fun x => !isi "bool" x)) :
    lcD (gN 2) (tAn (tBl (dOp (oIsB true) (dVar 2) (dC (D.bl true)))) (tBl (dOp (oIsB true) (dVar 2) (dC (D.bl false))))) (dVar 2) δ W [c, d] [] := by
  subst hδ
  have e : [c, d] = [c, d].map id := by rw [List.map_id]
  rw [e]
  refine lc_fofG (β := D) id id (fun y => [some (.sh t), o1, some (.sh y)]) (fun x => !isi "bool" x) [c, d] [] (fun y _ F hF => ?_) (fun y hy R hR => ?_) (fun y _ _ R hR => ?_) ?_
  · exact hF
  · have hR : R (!isi "bool" y) := hR
    rw [← bd_bool] at hR
    simp only [↓zHd0, zHp0, ↓zGd0, ↓zGd1, ↓zGd2, ↓zGd3, ↓zGd4, zGp0, startD, ↓List.map_cons, ↓List.map_nil, ↓List.length_cons, ↓List.length_nil, Nat.reduceAdd, Nat.reduceSub, Nat.sub_self, List.replicate, ↓List.cons_append, ↓List.nil_append, List.append_nil, ↓List.getElem?_cons_zero, ↓List.getElem?_cons_succ, ↓List.set_cons_zero, ↓List.set_cons_succ, wipeD, Bool.not_true, Bool.not_false, decide_true, decide_false, beq_self_eq_true, true_and, and_true, Nat.reduceLeDiff, toDs, toDk, toDs_sh, ↓zS_ii, ↓zS_bi, ↓zS_bb, ↓zS_tt, ↓zS_ll, ↓zS_lt, ↓zS_lk, ↓zS_cut3, ↓zS_r3, ↓zS_r3D, ↓zS_nonI, ↓zS_nonN, ↓zS_ownO]
    cases q : isBD true y with
    | true => rw [q] at hR; simp only [↓zHd0, zHp0, ↓zGd0, ↓zGd1, ↓zGd2, ↓zGd3, ↓zGd4, zGp0, startD, ↓List.map_cons, ↓List.map_nil, ↓List.length_cons, ↓List.length_nil, Nat.reduceAdd, Nat.reduceSub, Nat.sub_self, List.replicate, ↓List.cons_append, ↓List.nil_append, List.append_nil, ↓List.getElem?_cons_zero, ↓List.getElem?_cons_succ, ↓List.set_cons_zero, ↓List.set_cons_succ, wipeD, Bool.not_true, Bool.not_false, decide_true, decide_false, beq_self_eq_true, true_and, and_true, Nat.reduceLeDiff, toDs, toDk, toDs_sh, ↓zS_ii, ↓zS_bi, ↓zS_bb, ↓zS_tt, ↓zS_ll, ↓zS_lt, ↓zS_lk, ↓zS_cut3, ↓zS_r3, ↓zS_r3D, ↓zS_nonI, ↓zS_nonN, ↓zS_ownO]; exact hR
    | false => rw [q] at hR; simp only [↓zHd0, zHp0, ↓zGd0, ↓zGd1, ↓zGd2, ↓zGd3, ↓zGd4, zGp0, startD, ↓List.map_cons, ↓List.map_nil, ↓List.length_cons, ↓List.length_nil, Nat.reduceAdd, Nat.reduceSub, Nat.sub_self, List.replicate, ↓List.cons_append, ↓List.nil_append, List.append_nil, ↓List.getElem?_cons_zero, ↓List.getElem?_cons_succ, ↓List.set_cons_zero, ↓List.set_cons_succ, wipeD, Bool.not_true, Bool.not_false, decide_true, decide_false, beq_self_eq_true, true_and, and_true, Nat.reduceLeDiff, toDs, toDk, toDs_sh, ↓zS_ii, ↓zS_bi, ↓zS_bb, ↓zS_tt, ↓zS_ll, ↓zS_lt, ↓zS_lk, ↓zS_cut3, ↓zS_r3, ↓zS_r3D, ↓zS_nonI, ↓zS_nonN, ↓zS_ownO]; exact hR
  · simp only [↓zHd0, zHp0, ↓zGd0, ↓zGd1, ↓zGd2, ↓zGd3, ↓zGd4, zGp0, startD, ↓List.map_cons, ↓List.map_nil, ↓List.length_cons, ↓List.length_nil, Nat.reduceAdd, Nat.reduceSub, Nat.sub_self, List.replicate, ↓List.cons_append, ↓List.nil_append, List.append_nil, ↓List.getElem?_cons_zero, ↓List.getElem?_cons_succ, ↓List.set_cons_zero, ↓List.set_cons_succ, wipeD, Bool.not_true, Bool.not_false, decide_true, decide_false, beq_self_eq_true, true_and, and_true, Nat.reduceLeDiff, toDs, toDk, toDs_sh, ↓zS_ii, ↓zS_bi, ↓zS_bb, ↓zS_tt, ↓zS_ll, ↓zS_lt, ↓zS_lk, ↓zS_cut3, ↓zS_r3, ↓zS_r3D, ↓zS_nonI, ↓zS_nonN, ↓zS_ownO]
    exact hR
  · rw [List.nil_append, List.map_id]
    exact k
theorem cut_a {a b c d : D} : cut [a, b, c, d] none (some 2) = [a, b] := by rfl
theorem cut_b {a b c d : D} : cut [a, b, c, d] (some 2) none = [c, d] := by rfl
theorem lpc_a {d : D} {Q : D → Prop} (h : rOk d) (hq : Q (.bl (isPc d))) : S__law_is_piece [d] Q := by
  refine ⟨rfl, ?_⟩
  show t__law_is_piece _ [some (.sh d), none, none]
  simp only [t__law_is_piece, ↓zHd0, zHp0, ↓zGd0, ↓zGd1, ↓zGd2, ↓zGd3, ↓zGd4, zGp0, startD, ↓List.map_cons, ↓List.map_nil, ↓List.length_cons, ↓List.length_nil, Nat.reduceAdd, Nat.reduceSub, Nat.sub_self, List.replicate, ↓List.cons_append, ↓List.nil_append, List.append_nil, ↓List.getElem?_cons_zero, ↓List.getElem?_cons_succ, ↓List.set_cons_zero, ↓List.set_cons_succ, wipeD, Bool.not_true, Bool.not_false, decide_true, decide_false, beq_self_eq_true, true_and, and_true, Nat.reduceLeDiff, toDs, toDk, toDs_sh, ↓zS_ii, ↓zS_bi, ↓zS_bb, ↓zS_tt, ↓zS_ll, ↓zS_lt, ↓zS_lk, ↓zS_cut3, ↓zS_r3, ↓zS_r3D, ↓zS_nonI, ↓zS_nonN, ↓zS_ownO]
  refine isA h ?_
  by_cases ht : ∃ xs, d = .tup xs
  · obtain ⟨xs, rfl⟩ := ht
    rw [isi_t]
    simp only [↓zHd0, zHp0, ↓zGd0, ↓zGd1, ↓zGd2, ↓zGd3, ↓zGd4, zGp0, startD, ↓List.map_cons, ↓List.map_nil, ↓List.length_cons, ↓List.length_nil, Nat.reduceAdd, Nat.reduceSub, Nat.sub_self, List.replicate, ↓List.cons_append, ↓List.nil_append, List.append_nil, ↓List.getElem?_cons_zero, ↓List.getElem?_cons_succ, ↓List.set_cons_zero, ↓List.set_cons_succ, wipeD, Bool.not_true, Bool.not_false, decide_true, decide_false, beq_self_eq_true, true_and, and_true, Nat.reduceLeDiff, toDs, toDk, toDs_sh, ↓zS_ii, ↓zS_bi, ↓zS_bb, ↓zS_tt, ↓zS_ll, ↓zS_lt, ↓zS_lk, ↓zS_cut3, ↓zS_r3, ↓zS_r3D, ↓zS_nonI, ↓zS_nonN, ↓zS_ownO]
    match xs, h, hq with
    | [a, b, c, d], h, hq =>
      rw [rOk, rOkL, rOkL, rOkL, rOkL] at h
      obtain ⟨ha, hb, hc, hd, _⟩ := h
      rw [decide_eq_true (by rfl)]
      simp only [↓zHd0, zHp0, ↓zGd0, ↓zGd1, ↓zGd2, ↓zGd3, ↓zGd4, zGp0, startD, ↓List.map_cons, ↓List.map_nil, ↓List.length_cons, ↓List.length_nil, Nat.reduceAdd, Nat.reduceSub, Nat.sub_self, List.replicate, ↓List.cons_append, ↓List.nil_append, List.append_nil, ↓List.getElem?_cons_zero, ↓List.getElem?_cons_succ, ↓List.set_cons_zero, ↓List.set_cons_succ, wipeD, Bool.not_true, Bool.not_false, decide_true, decide_false, beq_self_eq_true, true_and, and_true, Nat.reduceLeDiff, toDs, toDk, toDs_sh, ↓zS_ii, ↓zS_bi, ↓zS_bb, ↓zS_tt, ↓zS_ll, ↓zS_lt, ↓zS_lk, ↓zS_cut3, ↓zS_r3, ↓zS_r3D, ↓zS_nonI, ↓zS_nonN, ↓zS_ownO]
      rw [cut_a]
      refine ⟨by rw [sizeLine_eq]; simp, nums_a rfl ha hb ?_⟩
      have hq : Q (.bl (isCnt a && isCnt b && isi "bool" c && isi "bool" d)) := hq
      have no : isCnt a = false ∨ isCnt b = false → Q (.bl false) := fun z => by
        rcases z with z | z
        · rw [z] at hq; exact hq
        · rw [z, Bool.and_false] at hq; exact hq
      cases ea : isCnt a with
      | false =>
        have e2 : decide ((([a, b].filter isCnt).length : Int) = 2) = false := decide_eq_false (by
          have := List.length_filter_le isCnt [b]
          rw [List.filter_cons, if_neg (by rw [ea]; exact Bool.false_ne_true)]
          simp only [List.length_cons, List.length_nil] at this
          omega)
        rw [e2]
        simp only [↓zHd0, zHp0, ↓zGd0, ↓zGd1, ↓zGd2, ↓zGd3, ↓zGd4, zGp0, startD, ↓List.map_cons, ↓List.map_nil, ↓List.length_cons, ↓List.length_nil, Nat.reduceAdd, Nat.reduceSub, Nat.sub_self, List.replicate, ↓List.cons_append, ↓List.nil_append, List.append_nil, ↓List.getElem?_cons_zero, ↓List.getElem?_cons_succ, ↓List.set_cons_zero, ↓List.set_cons_succ, wipeD, Bool.not_true, Bool.not_false, decide_true, decide_false, beq_self_eq_true, true_and, and_true, Nat.reduceLeDiff, toDs, toDk, toDs_sh, ↓zS_ii, ↓zS_bi, ↓zS_bb, ↓zS_tt, ↓zS_ll, ↓zS_lt, ↓zS_lk, ↓zS_cut3, ↓zS_r3, ↓zS_r3D, ↓zS_nonI, ↓zS_nonN, ↓zS_ownO]
        exact no (.inl ea)
      | true =>
        cases eb : isCnt b with
        | false =>
          have e2 : decide ((([a, b].filter isCnt).length : Int) = 2) = false := decide_eq_false (by
            rw [List.filter_cons, if_pos ea, List.filter_cons, if_neg (by rw [eb]; exact Bool.false_ne_true), List.filter_nil]
            simp)
          rw [e2]
          simp only [↓zHd0, zHp0, ↓zGd0, ↓zGd1, ↓zGd2, ↓zGd3, ↓zGd4, zGp0, startD, ↓List.map_cons, ↓List.map_nil, ↓List.length_cons, ↓List.length_nil, Nat.reduceAdd, Nat.reduceSub, Nat.sub_self, List.replicate, ↓List.cons_append, ↓List.nil_append, List.append_nil, ↓List.getElem?_cons_zero, ↓List.getElem?_cons_succ, ↓List.set_cons_zero, ↓List.set_cons_succ, wipeD, Bool.not_true, Bool.not_false, decide_true, decide_false, beq_self_eq_true, true_and, and_true, Nat.reduceLeDiff, toDs, toDk, toDs_sh, ↓zS_ii, ↓zS_bi, ↓zS_bb, ↓zS_tt, ↓zS_ll, ↓zS_lt, ↓zS_lk, ↓zS_cut3, ↓zS_r3, ↓zS_r3D, ↓zS_nonI, ↓zS_nonN, ↓zS_ownO]
          exact no (.inr eb)
        | true =>
          have e2 : [a, b].filter isCnt = [a, b] := by rw [List.filter_cons, if_pos ea, List.filter_cons, if_pos eb, List.filter_nil]
          rw [e2, decide_eq_true (by rfl)]
          simp only [↓zHd0, zHp0, ↓zGd0, ↓zGd1, ↓zGd2, ↓zGd3, ↓zGd4, zGp0, startD, ↓List.map_cons, ↓List.map_nil, ↓List.length_cons, ↓List.length_nil, Nat.reduceAdd, Nat.reduceSub, Nat.sub_self, List.replicate, ↓List.cons_append, ↓List.nil_append, List.append_nil, ↓List.getElem?_cons_zero, ↓List.getElem?_cons_succ, ↓List.set_cons_zero, ↓List.set_cons_succ, wipeD, Bool.not_true, Bool.not_false, decide_true, decide_false, beq_self_eq_true, true_and, and_true, Nat.reduceLeDiff, toDs, toDk, toDs_sh, ↓zS_ii, ↓zS_bi, ↓zS_bb, ↓zS_tt, ↓zS_ll, ↓zS_lt, ↓zS_lk, ↓zS_cut3, ↓zS_r3, ↓zS_r3D, ↓zS_nonI, ↓zS_nonN, ↓zS_ownO]
          rw [cut_b]
          refine ⟨by rw [sizeLine_eq]; simp, bits_a rfl ?_⟩
          rw [ea, eb, Bool.true_and, Bool.true_and] at hq
          cases ec : isi "bool" c with
          | false =>
            rw [ec] at hq
            rw [List.filter_cons, if_pos (by rw [ec]; rfl)]
            exact hq
          | true =>
            rw [ec] at hq
            rw [List.filter_cons, if_neg (by rw [ec]; exact Bool.false_ne_true)]
            cases ed : isi "bool" d with
            | false =>
              rw [ed] at hq
              rw [List.filter_cons, if_pos (by rw [ed]; rfl)]
              exact hq
            | true =>
              rw [ed] at hq
              rw [List.filter_cons, if_neg (by rw [ed]; exact Bool.false_ne_true), List.filter_nil]
              exact hq
    | [], _, hq => rw [decide_eq_false (by simp)]; simp only [↓zHd0, zHp0, ↓zGd0, ↓zGd1, ↓zGd2, ↓zGd3, ↓zGd4, zGp0, startD, ↓List.map_cons, ↓List.map_nil, ↓List.length_cons, ↓List.length_nil, Nat.reduceAdd, Nat.reduceSub, Nat.sub_self, List.replicate, ↓List.cons_append, ↓List.nil_append, List.append_nil, ↓List.getElem?_cons_zero, ↓List.getElem?_cons_succ, ↓List.set_cons_zero, ↓List.set_cons_succ, wipeD, Bool.not_true, Bool.not_false, decide_true, decide_false, beq_self_eq_true, true_and, and_true, Nat.reduceLeDiff, toDs, toDk, toDs_sh, ↓zS_ii, ↓zS_bi, ↓zS_bb, ↓zS_tt, ↓zS_ll, ↓zS_lt, ↓zS_lk, ↓zS_cut3, ↓zS_r3, ↓zS_r3D, ↓zS_nonI, ↓zS_nonN, ↓zS_ownO]; exact hq
    | [_], _, hq => rw [decide_eq_false (by simp)]; simp only [↓zHd0, zHp0, ↓zGd0, ↓zGd1, ↓zGd2, ↓zGd3, ↓zGd4, zGp0, startD, ↓List.map_cons, ↓List.map_nil, ↓List.length_cons, ↓List.length_nil, Nat.reduceAdd, Nat.reduceSub, Nat.sub_self, List.replicate, ↓List.cons_append, ↓List.nil_append, List.append_nil, ↓List.getElem?_cons_zero, ↓List.getElem?_cons_succ, ↓List.set_cons_zero, ↓List.set_cons_succ, wipeD, Bool.not_true, Bool.not_false, decide_true, decide_false, beq_self_eq_true, true_and, and_true, Nat.reduceLeDiff, toDs, toDk, toDs_sh, ↓zS_ii, ↓zS_bi, ↓zS_bb, ↓zS_tt, ↓zS_ll, ↓zS_lt, ↓zS_lk, ↓zS_cut3, ↓zS_r3, ↓zS_r3D, ↓zS_nonI, ↓zS_nonN, ↓zS_ownO]; exact hq
    | [_, _], _, hq => rw [decide_eq_false (by simp)]; simp only [↓zHd0, zHp0, ↓zGd0, ↓zGd1, ↓zGd2, ↓zGd3, ↓zGd4, zGp0, startD, ↓List.map_cons, ↓List.map_nil, ↓List.length_cons, ↓List.length_nil, Nat.reduceAdd, Nat.reduceSub, Nat.sub_self, List.replicate, ↓List.cons_append, ↓List.nil_append, List.append_nil, ↓List.getElem?_cons_zero, ↓List.getElem?_cons_succ, ↓List.set_cons_zero, ↓List.set_cons_succ, wipeD, Bool.not_true, Bool.not_false, decide_true, decide_false, beq_self_eq_true, true_and, and_true, Nat.reduceLeDiff, toDs, toDk, toDs_sh, ↓zS_ii, ↓zS_bi, ↓zS_bb, ↓zS_tt, ↓zS_ll, ↓zS_lt, ↓zS_lk, ↓zS_cut3, ↓zS_r3, ↓zS_r3D, ↓zS_nonI, ↓zS_nonN, ↓zS_ownO]; exact hq
    | [_, _, _], _, hq => rw [decide_eq_false (by simp)]; simp only [↓zHd0, zHp0, ↓zGd0, ↓zGd1, ↓zGd2, ↓zGd3, ↓zGd4, zGp0, startD, ↓List.map_cons, ↓List.map_nil, ↓List.length_cons, ↓List.length_nil, Nat.reduceAdd, Nat.reduceSub, Nat.sub_self, List.replicate, ↓List.cons_append, ↓List.nil_append, List.append_nil, ↓List.getElem?_cons_zero, ↓List.getElem?_cons_succ, ↓List.set_cons_zero, ↓List.set_cons_succ, wipeD, Bool.not_true, Bool.not_false, decide_true, decide_false, beq_self_eq_true, true_and, and_true, Nat.reduceLeDiff, toDs, toDk, toDs_sh, ↓zS_ii, ↓zS_bi, ↓zS_bb, ↓zS_tt, ↓zS_ll, ↓zS_lt, ↓zS_lk, ↓zS_cut3, ↓zS_r3, ↓zS_r3D, ↓zS_nonI, ↓zS_nonN, ↓zS_ownO]; exact hq
    | _ :: _ :: _ :: _ :: _ :: r, _, hq => rw [decide_eq_false (by simp only [List.length_cons]; omega)]; simp only [↓zHd0, zHp0, ↓zGd0, ↓zGd1, ↓zGd2, ↓zGd3, ↓zGd4, zGp0, startD, ↓List.map_cons, ↓List.map_nil, ↓List.length_cons, ↓List.length_nil, Nat.reduceAdd, Nat.reduceSub, Nat.sub_self, List.replicate, ↓List.cons_append, ↓List.nil_append, List.append_nil, ↓List.getElem?_cons_zero, ↓List.getElem?_cons_succ, ↓List.set_cons_zero, ↓List.set_cons_succ, wipeD, Bool.not_true, Bool.not_false, decide_true, decide_false, beq_self_eq_true, true_and, and_true, Nat.reduceLeDiff, toDs, toDk, toDs_sh, ↓zS_ii, ↓zS_bi, ↓zS_bb, ↓zS_tt, ↓zS_ll, ↓zS_lt, ↓zS_lk, ↓zS_cut3, ↓zS_r3, ↓zS_r3D, ↓zS_nonI, ↓zS_nonN, ↓zS_ownO]; exact hq
  · rw [isi_nt (fun xs e => ht ⟨xs, e⟩) h]
    have e : isPc d = false := by
      cases d with
      | tup xs => exact absurd ⟨xs, rfl⟩ ht
      | _ => rfl
    rw [e] at hq
    simp only [↓zHd0, zHp0, ↓zGd0, ↓zGd1, ↓zGd2, ↓zGd3, ↓zGd4, zGp0, startD, ↓List.map_cons, ↓List.map_nil, ↓List.length_cons, ↓List.length_nil, Nat.reduceAdd, Nat.reduceSub, Nat.sub_self, List.replicate, ↓List.cons_append, ↓List.nil_append, List.append_nil, ↓List.getElem?_cons_zero, ↓List.getElem?_cons_succ, ↓List.set_cons_zero, ↓List.set_cons_succ, wipeD, Bool.not_true, Bool.not_false, decide_true, decide_false, beq_self_eq_true, true_and, and_true, Nat.reduceLeDiff, toDs, toDk, toDs_sh, ↓zS_ii, ↓zS_bi, ↓zS_bb, ↓zS_tt, ↓zS_ll, ↓zS_lt, ↓zS_lk, ↓zS_cut3, ↓zS_r3, ↓zS_r3D, ↓zS_nonI, ↓zS_nonN, ↓zS_ownO]
    exact hq
theorem eqE_of {xs : List D} {Q : D → Prop} (hq : Q (.bl xs.isEmpty)) : oEqE (.lst xs) (.lst []) Q := hq
theorem filter_all {α : Type} (p : α → Bool) : ∀ xs : List α, (xs.filter fun x => !p x).isEmpty = xs.all p
  | [] => rfl
  | x :: xs => by
    have ih := filter_all p xs
    rw [List.filter_cons, List.all_cons]
    cases e : p x with
    | true => simp only [Bool.not_true, Bool.false_eq_true, if_false, Bool.true_and]; exact ih
    | false => simp
theorem lare_seq {d : D} {xs : List D} {Q : D → Prop} (h : ∀ x ∈ xs, rOk x) (hl : xs.length ≤ 100000) (hi : isi2A "list" "tuple" [5] d = fun Q => isi2A "list" "tuple" [5] (.lst xs) Q)
    (hs : ∀ QL : List D → Prop, QL xs → seqD d QL) (hq : Q (.bl (xs.all isPc))) : S__law_are_pieces [d] Q := by
  refine ⟨rfl, ?_⟩
  simp only [t__law_are_pieces, ↓zHd0, zHp0, ↓zGd0, ↓zGd1, ↓zGd2, ↓zGd3, ↓zGd4, zGp0, startD, ↓List.map_cons, ↓List.map_nil, ↓List.length_cons, ↓List.length_nil, Nat.reduceAdd, Nat.reduceSub, Nat.sub_self, List.replicate, ↓List.cons_append, ↓List.nil_append, List.append_nil, ↓List.getElem?_cons_zero, ↓List.getElem?_cons_succ, ↓List.set_cons_zero, ↓List.set_cons_succ, wipeD, Bool.not_true, Bool.not_false, decide_true, decide_false, beq_self_eq_true, true_and, and_true, Nat.reduceLeDiff, toDs, toDk, toDs_sh, ↓zS_ii, ↓zS_bi, ↓zS_bb, ↓zS_tt, ↓zS_ll, ↓zS_lt, ↓zS_lk, ↓zS_cut3, ↓zS_r3, ↓zS_r3D, ↓zS_nonI, ↓zS_nonN, ↓zS_ownO]
  rw [hi]
  simp only [zS_ll, ↓zHd0, zHp0, ↓zGd0, ↓zGd1, ↓zGd2, ↓zGd3, ↓zGd4, zGp0, startD, ↓List.map_cons, ↓List.map_nil, ↓List.length_cons, ↓List.length_nil, Nat.reduceAdd, Nat.reduceSub, Nat.sub_self, List.replicate, ↓List.cons_append, ↓List.nil_append, List.append_nil, ↓List.getElem?_cons_zero, ↓List.getElem?_cons_succ, ↓List.set_cons_zero, ↓List.set_cons_succ, wipeD, Bool.not_true, Bool.not_false, decide_true, decide_false, beq_self_eq_true, true_and, and_true, Nat.reduceLeDiff, toDs, toDk, toDs_sh, ↓zS_ii, ↓zS_bi, ↓zS_bb, ↓zS_tt, ↓zS_ll, ↓zS_lt, ↓zS_lk, ↓zS_cut3, ↓zS_r3, ↓zS_r3D, ↓zS_nonI, ↓zS_nonN, ↓zS_ownO]
  refine hs _ ⟨by rw [sizeLine_eq]; omega, ?_⟩
  have e : xs = xs.map id := by rw [List.map_id]
  rw [e]
  refine lc_fofG (β := D) id id (fun y => [some (.sh d), some (.sh y)]) (fun x => !isPc x) xs [] (fun y _ F hF => hF) (fun y hy R hR => ?_) (fun y _ _ R hR => ?_) ?_
  · simp only [↓zHd0, zHp0, ↓zGd0, ↓zGd1, ↓zGd2, ↓zGd3, ↓zGd4, zGp0, startD, ↓List.map_cons, ↓List.map_nil, ↓List.length_cons, ↓List.length_nil, Nat.reduceAdd, Nat.reduceSub, Nat.sub_self, List.replicate, ↓List.cons_append, ↓List.nil_append, List.append_nil, ↓List.getElem?_cons_zero, ↓List.getElem?_cons_succ, ↓List.set_cons_zero, ↓List.set_cons_succ, wipeD, Bool.not_true, Bool.not_false, decide_true, decide_false, beq_self_eq_true, true_and, and_true, Nat.reduceLeDiff, toDs, toDk, toDs_sh, ↓zS_ii, ↓zS_bi, ↓zS_bb, ↓zS_tt, ↓zS_ll, ↓zS_lt, ↓zS_lk, ↓zS_cut3, ↓zS_r3, ↓zS_r3D, ↓zS_nonI, ↓zS_nonN, ↓zS_ownO]
    exact lpc_a (h y hy) hR
  · simp only [↓zHd0, zHp0, ↓zGd0, ↓zGd1, ↓zGd2, ↓zGd3, ↓zGd4, zGp0, startD, ↓List.map_cons, ↓List.map_nil, ↓List.length_cons, ↓List.length_nil, Nat.reduceAdd, Nat.reduceSub, Nat.sub_self, List.replicate, ↓List.cons_append, ↓List.nil_append, List.append_nil, ↓List.getElem?_cons_zero, ↓List.getElem?_cons_succ, ↓List.set_cons_zero, ↓List.set_cons_succ, wipeD, Bool.not_true, Bool.not_false, decide_true, decide_false, beq_self_eq_true, true_and, and_true, Nat.reduceLeDiff, toDs, toDk, toDs_sh, ↓zS_ii, ↓zS_bi, ↓zS_bb, ↓zS_tt, ↓zS_ll, ↓zS_lt, ↓zS_lk, ↓zS_cut3, ↓zS_r3, ↓zS_r3D, ↓zS_nonI, ↓zS_nonN, ↓zS_ownO]
    exact hR
  · rw [List.nil_append, List.map_id]
    refine eqE_of ?_
    rw [filter_all]
    exact hq
theorem lare_a {d : D} {Q : D → Prop} (h : rOk d) (hl : ∀ xs, d = .lst xs ∨ d = .tup xs → xs.length ≤ 100000) (hq : Q (.bl (arePc d))) : S__law_are_pieces [d] Q := by
  by_cases h1 : ∃ xs, d = .lst xs
  · obtain ⟨xs, rfl⟩ := h1
    rw [rOk] at h
    exact lare_seq (rOkL_mem h) (hl xs (.inl rfl)) rfl (fun _ q => q) hq
  · by_cases h2 : ∃ xs, d = .tup xs
    · obtain ⟨xs, rfl⟩ := h2
      rw [rOk] at h
      refine lare_seq (rOkL_mem h) (hl xs (.inr rfl)) (funext fun Q => ?_) (fun _ q => q) hq
      exact propext Iff.rfl
    · refine ⟨rfl, ?_⟩
      simp only [t__law_are_pieces, ↓zHd0, zHp0, ↓zGd0, ↓zGd1, ↓zGd2, ↓zGd3, ↓zGd4, zGp0, startD, ↓List.map_cons, ↓List.map_nil, ↓List.length_cons, ↓List.length_nil, Nat.reduceAdd, Nat.reduceSub, Nat.sub_self, List.replicate, ↓List.cons_append, ↓List.nil_append, List.append_nil, ↓List.getElem?_cons_zero, ↓List.getElem?_cons_succ, ↓List.set_cons_zero, ↓List.set_cons_succ, wipeD, Bool.not_true, Bool.not_false, decide_true, decide_false, beq_self_eq_true, true_and, and_true, Nat.reduceLeDiff, toDs, toDk, toDs_sh, ↓zS_ii, ↓zS_bi, ↓zS_bb, ↓zS_tt, ↓zS_ll, ↓zS_lt, ↓zS_lk, ↓zS_cut3, ↓zS_r3, ↓zS_r3D, ↓zS_nonI, ↓zS_nonN, ↓zS_ownO]
      obtain ⟨e1, e2⟩ := isi2_no (fun xs e => h1 ⟨xs, e⟩) (fun xs e => h2 ⟨xs, e⟩) h
      refine is2A h ?_
      rw [e1]
      rw [e2] at hq
      simp only [↓zHd0, zHp0, ↓zGd0, ↓zGd1, ↓zGd2, ↓zGd3, ↓zGd4, zGp0, startD, ↓List.map_cons, ↓List.map_nil, ↓List.length_cons, ↓List.length_nil, Nat.reduceAdd, Nat.reduceSub, Nat.sub_self, List.replicate, ↓List.cons_append, ↓List.nil_append, List.append_nil, ↓List.getElem?_cons_zero, ↓List.getElem?_cons_succ, ↓List.set_cons_zero, ↓List.set_cons_succ, wipeD, Bool.not_true, Bool.not_false, decide_true, decide_false, beq_self_eq_true, true_and, and_true, Nat.reduceLeDiff, toDs, toDk, toDs_sh, ↓zS_ii, ↓zS_bi, ↓zS_bb, ↓zS_tt, ↓zS_ll, ↓zS_lt, ↓zS_lk, ↓zS_cut3, ↓zS_r3, ↓zS_r3D, ↓zS_nonI, ↓zS_nonN, ↓zS_ownO]
      exact hq
theorem cnt_of {x : D} (h : rOk x) (c : isCnt x = true) : ∃ i : Int, x = .int i ∧ 0 ≤ i ∧ (D.int i).fine = true := by
  cases x with
  | int i => exact ⟨i, rfl, of_decide_eq_true c, by rw [rOk] at h; exact h⟩
  | _ => cases c
theorem bool_of {x : D} (h : rOk x) (c : isi "bool" x = true) : ∃ b : Bool, x = .bl b := by
  cases x with
  | bl b => exact ⟨b, rfl⟩
  | int i => rw [zS_bi] at c; cases c
  | obj _ _ => rw [rOk] at h; exact h.elim
  | ktup _ => rw [rOk] at h; exact h.elim
  | bag => rw [rOk] at h; exact h.elim
  | non => exact absurd c (by rw [show isi "bool" D.non = false from by rfl]; exact Bool.false_ne_true)
  | str x => exact absurd c (by rw [show isi "bool" (D.str x) = false from by rfl]; exact Bool.false_ne_true)
  | lst x => exact absurd c (by rw [show isi "bool" (D.lst x) = false from by rfl]; exact Bool.false_ne_true)
  | tup x => exact absurd c (by rw [show isi "bool" (D.tup x) = false from by rfl]; exact Bool.false_ne_true)
  | dic x => exact absurd c (by rw [show isi "bool" (D.dic x) = false from by rfl]; exact Bool.false_ne_true)
theorem pc_of {x : D} (h : rOk x) (c : isPc x = true) : ∃ p, x = pcD p ∧ Okp p := by
  cases x with
  | tup xs =>
    match xs, h, c with
    | [a, b, e, f], h, c =>
      rw [rOk, rOkL, rOkL, rOkL, rOkL] at h
      obtain ⟨ha, hb, he, hf, _⟩ := h
      have c : (isCnt a && isCnt b && isi "bool" e && isi "bool" f) = true := c
      simp only [Bool.and_eq_true] at c
      obtain ⟨⟨⟨ca, cb⟩, ce⟩, cf⟩ := c
      obtain ⟨i, rfl, i0, i1⟩ := cnt_of ha ca
      obtain ⟨j, rfl, j0, j1⟩ := cnt_of hb cb
      obtain ⟨p, rfl⟩ := bool_of he ce
      obtain ⟨q, rfl⟩ := bool_of hf cf
      exact ⟨(i, j, p, q), rfl, i0, i1, j0, j1⟩
  | _ => cases c
theorem pcs_of : ∀ {xs : List D}, (∀ x ∈ xs, rOk x) → xs.all isPc = true → ∃ u : List Pc, xs = u.map pcD ∧ Okl u
  | [], _, _ => ⟨[], rfl, fun _ h => nomatch h⟩
  | x :: xs, h, c => by
    rw [List.all_cons, Bool.and_eq_true] at c
    obtain ⟨p, rfl, hp⟩ := pc_of (h x List.mem_cons_self) c.1
    obtain ⟨u, rfl, hu⟩ := pcs_of (fun y hy => h y (List.mem_cons_of_mem _ hy)) c.2
    refine ⟨p :: u, rfl, fun z hz => ?_⟩
    rcases List.mem_cons.mp hz with rfl | hz
    · exact hp
    · exact hu z hz
theorem sqd_of {d : D} (h : rOk d) (c : arePc d = true) : ∃ u, Sqd d u ∧ Okl u ∧ (d = .lst (u.map pcD) ∨ d = .tup (u.map pcD)) := by
  cases d with
  | lst xs =>
    rw [rOk] at h
    obtain ⟨u, rfl, hu⟩ := pcs_of (rOkL_mem h) c
    exact ⟨u, sqd_l u, hu, .inl rfl⟩
  | tup xs =>
    rw [rOk] at h
    obtain ⟨u, rfl, hu⟩ := pcs_of (rOkL_mem h) c
    exact ⟨u, sqd_t u, hu, .inr rfl⟩
  | _ => cases c
def saidD (b : Bool) : D := if b = true then .tup [.str (Str.ofString "made"), .bl true] else .tup [.str (Str.ofString "wrong"), .int 0]
theorem xinit_y {Wx : XW} {d : D} {u : List Pc} {Q : List D → Prop} (hd : Sqd d u) (h : Okl u) (hl : u.length ≤ 100000) (hq : Q [lD (Nn u)]) : Sx_Heap___init__ Wx [d] Q := by
  refine ⟨rfl, fun x => ?_⟩
  show tx_Heap___init__ Wx _ [some (.nw x 5 []), some (.sh d)]
  simp only [tx_Heap___init__, ↓zHd0, zHp0, ↓zGd0, ↓zGd1, ↓zGd2, ↓zGd3, ↓zGd4, zGp0, startD, ↓List.map_cons, ↓List.map_nil, ↓List.length_cons, ↓List.length_nil, Nat.reduceAdd, Nat.reduceSub, Nat.sub_self, List.replicate, ↓List.cons_append, ↓List.nil_append, List.append_nil, ↓List.getElem?_cons_zero, ↓List.getElem?_cons_succ, ↓List.set_cons_zero, ↓List.set_cons_succ, wipeD, Bool.not_true, Bool.not_false, decide_true, decide_false, beq_self_eq_true, true_and, and_true, Nat.reduceLeDiff, toDs, toDk, toDs_sh, ↓zS_ii, ↓zS_bi, ↓zS_bb, ↓zS_tt, ↓zS_ll, ↓zS_lt, ↓zS_lk, ↓zS_cut3, ↓zS_r3, ↓zS_r3D, ↓zS_nonI, ↓zS_nonN, ↓zS_ownO]
  refine are_ok hd h hl ?_
  simp only [notB_eq, ↓zHd0, zHp0, ↓zGd0, ↓zGd1, ↓zGd2, ↓zGd3, ↓zGd4, zGp0, startD, ↓List.map_cons, ↓List.map_nil, ↓List.length_cons, ↓List.length_nil, Nat.reduceAdd, Nat.reduceSub, Nat.sub_self, List.replicate, ↓List.cons_append, ↓List.nil_append, List.append_nil, ↓List.getElem?_cons_zero, ↓List.getElem?_cons_succ, ↓List.set_cons_zero, ↓List.set_cons_succ, wipeD, Bool.not_true, Bool.not_false, decide_true, decide_false, beq_self_eq_true, true_and, and_true, Nat.reduceLeDiff, toDs, toDk, toDs_sh, ↓zS_ii, ↓zS_bi, ↓zS_bb, ↓zS_tt, ↓zS_ll, ↓zS_lt, ↓zS_lk, ↓zS_cut3, ↓zS_r3, ↓zS_r3D, ↓zS_nonI, ↓zS_nonN, ↓zS_ownO]
  show dSelf 0 0 5 (dCall S_in_order (dCons (dVar 1) dNil)) (endI x 5 Q) [some (.nw x 5 []), some (.sh d)]
  refine in_order_ok hd h hl ?_
  exact ⟨⟨rfl, rfl⟩, ⟨rfl, rfl⟩, [lD (Nn u)], rfl, by simp, hq⟩
theorem xinit_n {Wx : XW} {d : D} {Q : List D → Prop} (h : rOk d) (hl : ∀ xs, d = .lst xs ∨ d = .tup xs → xs.length ≤ 100000) (hn : arePc d = false) (hq : Wx 21 (Str.ofString "place") (.int 0)) : Sx_Heap___init__ Wx [d] Q := by
  refine ⟨rfl, fun x => ?_⟩
  show tx_Heap___init__ Wx _ [some (.nw x 5 []), some (.sh d)]
  simp only [tx_Heap___init__, ↓zHd0, zHp0, ↓zGd0, ↓zGd1, ↓zGd2, ↓zGd3, ↓zGd4, zGp0, startD, ↓List.map_cons, ↓List.map_nil, ↓List.length_cons, ↓List.length_nil, Nat.reduceAdd, Nat.reduceSub, Nat.sub_self, List.replicate, ↓List.cons_append, ↓List.nil_append, List.append_nil, ↓List.getElem?_cons_zero, ↓List.getElem?_cons_succ, ↓List.set_cons_zero, ↓List.set_cons_succ, wipeD, Bool.not_true, Bool.not_false, decide_true, decide_false, beq_self_eq_true, true_and, and_true, Nat.reduceLeDiff, toDs, toDk, toDs_sh, ↓zS_ii, ↓zS_bi, ↓zS_bb, ↓zS_tt, ↓zS_ll, ↓zS_lt, ↓zS_lk, ↓zS_cut3, ↓zS_r3, ↓zS_r3D, ↓zS_nonI, ↓zS_nonN, ↓zS_ownO]
  refine are_a h hl ?_
  rw [hn]
  simp only [notB_eq, ↓zHd0, zHp0, ↓zGd0, ↓zGd1, ↓zGd2, ↓zGd3, ↓zGd4, zGp0, startD, ↓List.map_cons, ↓List.map_nil, ↓List.length_cons, ↓List.length_nil, Nat.reduceAdd, Nat.reduceSub, Nat.sub_self, List.replicate, ↓List.cons_append, ↓List.nil_append, List.append_nil, ↓List.getElem?_cons_zero, ↓List.getElem?_cons_succ, ↓List.set_cons_zero, ↓List.set_cons_succ, wipeD, Bool.not_true, Bool.not_false, decide_true, decide_false, beq_self_eq_true, true_and, and_true, Nat.reduceLeDiff, toDs, toDk, toDs_sh, ↓zS_ii, ↓zS_bi, ↓zS_bb, ↓zS_tt, ↓zS_ll, ↓zS_lt, ↓zS_lk, ↓zS_cut3, ↓zS_r3, ↓zS_r3D, ↓zS_nonI, ↓zS_nonN, ↓zS_ownO]
  exact hq
theorem heard_a {d : D} {Q : D → Prop} (h : rOk d) (hl : ∀ xs, d = .lst xs ∨ d = .tup xs → xs.length ≤ 100000) (hq : Q (saidD (arePc d))) : S__law_heard [d] Q := by
  refine ⟨rfl, ?_⟩
  show t__law_heard _ [some (.sh d), none]
  simp only [t__law_heard, ↓zHd0, zHp0, ↓zGd0, ↓zGd1, ↓zGd2, ↓zGd3, ↓zGd4, zGp0, startD, ↓List.map_cons, ↓List.map_nil, ↓List.length_cons, ↓List.length_nil, Nat.reduceAdd, Nat.reduceSub, Nat.sub_self, List.replicate, ↓List.cons_append, ↓List.nil_append, List.append_nil, ↓List.getElem?_cons_zero, ↓List.getElem?_cons_succ, ↓List.set_cons_zero, ↓List.set_cons_succ, wipeD, Bool.not_true, Bool.not_false, decide_true, decide_false, beq_self_eq_true, true_and, and_true, Nat.reduceLeDiff, toDs, toDk, toDs_sh, ↓zS_ii, ↓zS_bi, ↓zS_bb, ↓zS_tt, ↓zS_ll, ↓zS_lt, ↓zS_lk, ↓zS_cut3, ↓zS_r3, ↓zS_r3D, ↓zS_nonI, ↓zS_nonN, ↓zS_ownO]
  cases e : arePc d with
  | true =>
    rw [e] at hq
    obtain ⟨u, hs, hu, hd⟩ := sqd_of h e
    have hul : u.length ≤ 100000 := by
      rcases hd with rfl | rfl
      · have := hl _ (.inl rfl); rwa [List.length_map] at this
      · have := hl _ (.inr rfl); rwa [List.length_map] at this
    refine xinit_y hs hu hul ?_
    refine hlen_ok (A := Nn u) ?_
    have hN := Nn_le u
    refine ⟨⟨by omega, by omega⟩, ?_⟩
    simp only [↓zHd0, zHp0, ↓zGd0, ↓zGd1, ↓zGd2, ↓zGd3, ↓zGd4, zGp0, startD, ↓List.map_cons, ↓List.map_nil, ↓List.length_cons, ↓List.length_nil, Nat.reduceAdd, Nat.reduceSub, Nat.sub_self, List.replicate, ↓List.cons_append, ↓List.nil_append, List.append_nil, ↓List.getElem?_cons_zero, ↓List.getElem?_cons_succ, ↓List.set_cons_zero, ↓List.set_cons_succ, wipeD, Bool.not_true, Bool.not_false, decide_true, decide_false, beq_self_eq_true, true_and, and_true, Nat.reduceLeDiff, toDs, toDk, toDs_sh, ↓zS_ii, ↓zS_bi, ↓zS_bb, ↓zS_tt, ↓zS_ll, ↓zS_lt, ↓zS_lk, ↓zS_cut3, ↓zS_r3, ↓zS_r3D, ↓zS_nonI, ↓zS_nonN, ↓zS_ownO]
    rw [decide_eq_true (by omega)]
    exact hq
  | false =>
    rw [e] at hq
    exact xinit_n h hl e ⟨rfl, _, rfl, hq⟩
section
variable {A B : List Pc} {Q : D → Prop}
theorem piece_o (hq : Q (.bl false)) : S_is_piece [hpD B] Q := by
  refine ⟨rfl, ?_⟩
  unfold hpD
  simp only [t_is_piece, ↓zHd0, zHp0, ↓zGd0, ↓zGd1, ↓zGd2, ↓zGd3, ↓zGd4, zGp0, startD, ↓List.map_cons, ↓List.map_nil, ↓List.length_cons, ↓List.length_nil, Nat.reduceAdd, Nat.reduceSub, Nat.sub_self, List.replicate, ↓List.cons_append, ↓List.nil_append, List.append_nil, ↓List.getElem?_cons_zero, ↓List.getElem?_cons_succ, ↓List.set_cons_zero, ↓List.set_cons_succ, wipeD, Bool.not_true, Bool.not_false, decide_true, decide_false, beq_self_eq_true, true_and, and_true, Nat.reduceLeDiff, toDs, toDk, toDs_sh, ↓zS_ii, ↓zS_bi, ↓zS_bb, ↓zS_tt, ↓zS_ll, ↓zS_lt, ↓zS_lk, ↓zS_cut3, ↓zS_r3, ↓zS_r3D, ↓zS_nonI, ↓zS_nonN, ↓zS_ownO]
  refine ⟨by decide, ?_⟩
  exact hq
theorem con_n {d : D} (h : rOk d) (c : isPc d = false) (hq : Q (.bl false)) : S_Heap___contains__ [hpD A, d] Q := by
  refine ⟨rfl, ?_⟩
  simp only [t_Heap___contains__, ↓zHd0, zHp0, ↓zGd0, ↓zGd1, ↓zGd2, ↓zGd3, ↓zGd4, zGp0, startD, ↓List.map_cons, ↓List.map_nil, ↓List.length_cons, ↓List.length_nil, Nat.reduceAdd, Nat.reduceSub, Nat.sub_self, List.replicate, ↓List.cons_append, ↓List.nil_append, List.append_nil, ↓List.getElem?_cons_zero, ↓List.getElem?_cons_succ, ↓List.set_cons_zero, ↓List.set_cons_succ, wipeD, Bool.not_true, Bool.not_false, decide_true, decide_false, beq_self_eq_true, true_and, and_true, Nat.reduceLeDiff, toDs, toDk, toDs_sh, ↓zS_ii, ↓zS_bi, ↓zS_bb, ↓zS_tt, ↓zS_ll, ↓zS_lt, ↓zS_lk, ↓zS_cut3, ↓zS_r3, ↓zS_r3D, ↓zS_nonI, ↓zS_nonN, ↓zS_ownO]
  refine piece_a h ?_
  rw [c]
  simp only [↓zHd0, zHp0, ↓zGd0, ↓zGd1, ↓zGd2, ↓zGd3, ↓zGd4, zGp0, startD, ↓List.map_cons, ↓List.map_nil, ↓List.length_cons, ↓List.length_nil, Nat.reduceAdd, Nat.reduceSub, Nat.sub_self, List.replicate, ↓List.cons_append, ↓List.nil_append, List.append_nil, ↓List.getElem?_cons_zero, ↓List.getElem?_cons_succ, ↓List.set_cons_zero, ↓List.set_cons_succ, wipeD, Bool.not_true, Bool.not_false, decide_true, decide_false, beq_self_eq_true, true_and, and_true, Nat.reduceLeDiff, toDs, toDk, toDs_sh, ↓zS_ii, ↓zS_bi, ↓zS_bb, ↓zS_tt, ↓zS_ll, ↓zS_lt, ↓zS_lk, ↓zS_cut3, ↓zS_r3, ↓zS_r3D, ↓zS_nonI, ↓zS_nonN, ↓zS_ownO]
  exact hq
theorem con_o (hq : Q (.bl false)) : S_Heap___contains__ [hpD A, hpD B] Q := by
  refine ⟨rfl, ?_⟩
  simp only [t_Heap___contains__, ↓zHd0, zHp0, ↓zGd0, ↓zGd1, ↓zGd2, ↓zGd3, ↓zGd4, zGp0, startD, ↓List.map_cons, ↓List.map_nil, ↓List.length_cons, ↓List.length_nil, Nat.reduceAdd, Nat.reduceSub, Nat.sub_self, List.replicate, ↓List.cons_append, ↓List.nil_append, List.append_nil, ↓List.getElem?_cons_zero, ↓List.getElem?_cons_succ, ↓List.set_cons_zero, ↓List.set_cons_succ, wipeD, Bool.not_true, Bool.not_false, decide_true, decide_false, beq_self_eq_true, true_and, and_true, Nat.reduceLeDiff, toDs, toDk, toDs_sh, ↓zS_ii, ↓zS_bi, ↓zS_bb, ↓zS_tt, ↓zS_ll, ↓zS_lt, ↓zS_lk, ↓zS_cut3, ↓zS_r3, ↓zS_r3D, ↓zS_nonI, ↓zS_nonN, ↓zS_ownO]
  refine piece_o ?_
  simp only [↓zHd0, zHp0, ↓zGd0, ↓zGd1, ↓zGd2, ↓zGd3, ↓zGd4, zGp0, startD, ↓List.map_cons, ↓List.map_nil, ↓List.length_cons, ↓List.length_nil, Nat.reduceAdd, Nat.reduceSub, Nat.sub_self, List.replicate, ↓List.cons_append, ↓List.nil_append, List.append_nil, ↓List.getElem?_cons_zero, ↓List.getElem?_cons_succ, ↓List.set_cons_zero, ↓List.set_cons_succ, wipeD, Bool.not_true, Bool.not_false, decide_true, decide_false, beq_self_eq_true, true_and, and_true, Nat.reduceLeDiff, toDs, toDk, toDs_sh, ↓zS_ii, ↓zS_bi, ↓zS_bb, ↓zS_tt, ↓zS_ll, ↓zS_lt, ↓zS_lk, ↓zS_cut3, ↓zS_r3, ↓zS_r3D, ↓zS_nonI, ↓zS_nonN, ↓zS_ownO]
  exact hq
theorem isl_n {d : D} (h : ∀ xs, d ≠ .lst xs) (k : rOk d) : isi "list" d = false := by
  cases d with
  | lst xs => exact absurd rfl (h xs)
  | obj _ _ => rw [rOk] at k; exact k.elim
  | ktup _ => rw [rOk] at k; exact k.elim
  | bag => rw [rOk] at k; exact k.elim
  | _ => rfl
theorem isl_l {xs : List D} : isi "list" (.lst xs) = true := by rfl
theorem ord_n {d : D} (h : rOk d) (hl : ∀ xs, d = .lst xs ∨ d = .tup xs → xs.length ≤ 100000) (c : arePc d = false ∨ ∀ xs, d ≠ .lst xs) (hq : Q (.bl false)) : S_Heap_is_order [hpD A, d] Q := by
  refine ⟨rfl, ?_⟩
  simp only [t_Heap_is_order, ↓zHd0, zHp0, ↓zGd0, ↓zGd1, ↓zGd2, ↓zGd3, ↓zGd4, zGp0, startD, ↓List.map_cons, ↓List.map_nil, ↓List.length_cons, ↓List.length_nil, Nat.reduceAdd, Nat.reduceSub, Nat.sub_self, List.replicate, ↓List.cons_append, ↓List.nil_append, List.append_nil, ↓List.getElem?_cons_zero, ↓List.getElem?_cons_succ, ↓List.set_cons_zero, ↓List.set_cons_succ, wipeD, Bool.not_true, Bool.not_false, decide_true, decide_false, beq_self_eq_true, true_and, and_true, Nat.reduceLeDiff, toDs, toDk, toDs_sh, ↓zS_ii, ↓zS_bi, ↓zS_bb, ↓zS_tt, ↓zS_ll, ↓zS_lt, ↓zS_lk, ↓zS_cut3, ↓zS_r3, ↓zS_r3D, ↓zS_nonI, ↓zS_nonN, ↓zS_ownO]
  refine isA h ?_
  by_cases e : ∃ xs, d = .lst xs
  · obtain ⟨xs, rfl⟩ := e
    have c : arePc (.lst xs) = false := c.elim id fun z => absurd rfl (z xs)
    rw [isl_l]
    simp only [↓zHd0, zHp0, ↓zGd0, ↓zGd1, ↓zGd2, ↓zGd3, ↓zGd4, zGp0, startD, ↓List.map_cons, ↓List.map_nil, ↓List.length_cons, ↓List.length_nil, Nat.reduceAdd, Nat.reduceSub, Nat.sub_self, List.replicate, ↓List.cons_append, ↓List.nil_append, List.append_nil, ↓List.getElem?_cons_zero, ↓List.getElem?_cons_succ, ↓List.set_cons_zero, ↓List.set_cons_succ, wipeD, Bool.not_true, Bool.not_false, decide_true, decide_false, beq_self_eq_true, true_and, and_true, Nat.reduceLeDiff, toDs, toDk, toDs_sh, ↓zS_ii, ↓zS_bi, ↓zS_bb, ↓zS_tt, ↓zS_ll, ↓zS_lt, ↓zS_lk, ↓zS_cut3, ↓zS_r3, ↓zS_r3D, ↓zS_nonI, ↓zS_nonN, ↓zS_ownO]
    refine are_a h hl ?_
    rw [c]
    simp only [↓zHd0, zHp0, ↓zGd0, ↓zGd1, ↓zGd2, ↓zGd3, ↓zGd4, zGp0, startD, ↓List.map_cons, ↓List.map_nil, ↓List.length_cons, ↓List.length_nil, Nat.reduceAdd, Nat.reduceSub, Nat.sub_self, List.replicate, ↓List.cons_append, ↓List.nil_append, List.append_nil, ↓List.getElem?_cons_zero, ↓List.getElem?_cons_succ, ↓List.set_cons_zero, ↓List.set_cons_succ, wipeD, Bool.not_true, Bool.not_false, decide_true, decide_false, beq_self_eq_true, true_and, and_true, Nat.reduceLeDiff, toDs, toDk, toDs_sh, ↓zS_ii, ↓zS_bi, ↓zS_bb, ↓zS_tt, ↓zS_ll, ↓zS_lt, ↓zS_lk, ↓zS_cut3, ↓zS_r3, ↓zS_r3D, ↓zS_nonI, ↓zS_nonN, ↓zS_ownO]
    exact hq
  · rw [isl_n (fun xs z => e ⟨xs, z⟩) h]
    simp only [↓zHd0, zHp0, ↓zGd0, ↓zGd1, ↓zGd2, ↓zGd3, ↓zGd4, zGp0, startD, ↓List.map_cons, ↓List.map_nil, ↓List.length_cons, ↓List.length_nil, Nat.reduceAdd, Nat.reduceSub, Nat.sub_self, List.replicate, ↓List.cons_append, ↓List.nil_append, List.append_nil, ↓List.getElem?_cons_zero, ↓List.getElem?_cons_succ, ↓List.set_cons_zero, ↓List.set_cons_succ, wipeD, Bool.not_true, Bool.not_false, decide_true, decide_false, beq_self_eq_true, true_and, and_true, Nat.reduceLeDiff, toDs, toDk, toDs_sh, ↓zS_ii, ↓zS_bi, ↓zS_bb, ↓zS_tt, ↓zS_ll, ↓zS_lt, ↓zS_lk, ↓zS_cut3, ↓zS_r3, ↓zS_r3D, ↓zS_nonI, ↓zS_nonN, ↓zS_ownO]
    exact hq
theorem ord_o (hq : Q (.bl false)) : S_Heap_is_order [hpD A, hpD B] Q := by
  refine ⟨rfl, ?_⟩
  unfold hpD
  simp only [t_Heap_is_order, ↓zHd0, zHp0, ↓zGd0, ↓zGd1, ↓zGd2, ↓zGd3, ↓zGd4, zGp0, startD, ↓List.map_cons, ↓List.map_nil, ↓List.length_cons, ↓List.length_nil, Nat.reduceAdd, Nat.reduceSub, Nat.sub_self, List.replicate, ↓List.cons_append, ↓List.nil_append, List.append_nil, ↓List.getElem?_cons_zero, ↓List.getElem?_cons_succ, ↓List.set_cons_zero, ↓List.set_cons_succ, wipeD, Bool.not_true, Bool.not_false, decide_true, decide_false, beq_self_eq_true, true_and, and_true, Nat.reduceLeDiff, toDs, toDk, toDs_sh, ↓zS_ii, ↓zS_bi, ↓zS_bb, ↓zS_tt, ↓zS_ll, ↓zS_lt, ↓zS_lk, ↓zS_cut3, ↓zS_r3, ↓zS_r3D, ↓zS_nonI, ↓zS_nonN, ↓zS_ownO]
  refine ⟨by decide, ?_⟩
  exact hq
theorem ord_e (ha : Okl A) (hl : A.length ≤ 100000) (hq : Q (.bl (decide (A = [])))) : S_Heap_is_order [hpD A, .lst []] Q := by
  refine ⟨rfl, ?_⟩
  unfold hpD lD
  simp only [t_Heap_is_order, ↓zHd0, zHp0, ↓zGd0, ↓zGd1, ↓zGd2, ↓zGd3, ↓zGd4, zGp0, startD, ↓List.map_cons, ↓List.map_nil, ↓List.length_cons, ↓List.length_nil, Nat.reduceAdd, Nat.reduceSub, Nat.sub_self, List.replicate, ↓List.cons_append, ↓List.nil_append, List.append_nil, ↓List.getElem?_cons_zero, ↓List.getElem?_cons_succ, ↓List.set_cons_zero, ↓List.set_cons_succ, wipeD, Bool.not_true, Bool.not_false, decide_true, decide_false, beq_self_eq_true, true_and, and_true, Nat.reduceLeDiff, toDs, toDk, toDs_sh, ↓zS_ii, ↓zS_bi, ↓zS_bb, ↓zS_tt, ↓zS_ll, ↓zS_lt, ↓zS_lk, ↓zS_cut3, ↓zS_r3, ↓zS_r3D, ↓zS_nonI, ↓zS_nonN, ↓zS_ownO]
  rw [isl_l]
  simp only [↓zHd0, zHp0, ↓zGd0, ↓zGd1, ↓zGd2, ↓zGd3, ↓zGd4, zGp0, startD, ↓List.map_cons, ↓List.map_nil, ↓List.length_cons, ↓List.length_nil, Nat.reduceAdd, Nat.reduceSub, Nat.sub_self, List.replicate, ↓List.cons_append, ↓List.nil_append, List.append_nil, ↓List.getElem?_cons_zero, ↓List.getElem?_cons_succ, ↓List.set_cons_zero, ↓List.set_cons_succ, wipeD, Bool.not_true, Bool.not_false, decide_true, decide_false, beq_self_eq_true, true_and, and_true, Nat.reduceLeDiff, toDs, toDk, toDs_sh, ↓zS_ii, ↓zS_bi, ↓zS_bb, ↓zS_tt, ↓zS_ll, ↓zS_lt, ↓zS_lk, ↓zS_cut3, ↓zS_r3, ↓zS_r3D, ↓zS_nonI, ↓zS_nonN, ↓zS_ownO]
  refine are_ok (d := .lst []) (u := []) (sqd_l []) (fun _ z => nomatch z) (Nat.zero_le _) ?_
  simp only [↓zHd0, zHp0, ↓zGd0, ↓zGd1, ↓zGd2, ↓zGd3, ↓zGd4, zGp0, startD, ↓List.map_cons, ↓List.map_nil, ↓List.length_cons, ↓List.length_nil, Nat.reduceAdd, Nat.reduceSub, Nat.sub_self, List.replicate, ↓List.cons_append, ↓List.nil_append, List.append_nil, ↓List.getElem?_cons_zero, ↓List.getElem?_cons_succ, ↓List.set_cons_zero, ↓List.set_cons_succ, wipeD, Bool.not_true, Bool.not_false, decide_true, decide_false, beq_self_eq_true, true_and, and_true, Nat.reduceLeDiff, toDs, toDk, toDs_sh, ↓zS_ii, ↓zS_bi, ↓zS_bb, ↓zS_tt, ↓zS_ll, ↓zS_lt, ↓zS_lk, ↓zS_cut3, ↓zS_r3, ↓zS_r3D, ↓zS_nonI, ↓zS_nonN, ↓zS_ownO]
  cases A with
  | cons p A =>
    rw [decide_eq_false (by simp only [List.map_cons, List.length_cons]; omega)]
    rw [decide_eq_false (by simp)] at hq
    simp only [↓zHd0, zHp0, ↓zGd0, ↓zGd1, ↓zGd2, ↓zGd3, ↓zGd4, zGp0, startD, ↓List.map_cons, ↓List.map_nil, ↓List.length_cons, ↓List.length_nil, Nat.reduceAdd, Nat.reduceSub, Nat.sub_self, List.replicate, ↓List.cons_append, ↓List.nil_append, List.append_nil, ↓List.getElem?_cons_zero, ↓List.getElem?_cons_succ, ↓List.set_cons_zero, ↓List.set_cons_succ, wipeD, Bool.not_true, Bool.not_false, decide_true, decide_false, beq_self_eq_true, true_and, and_true, Nat.reduceLeDiff, toDs, toDk, toDs_sh, ↓zS_ii, ↓zS_bi, ↓zS_bb, ↓zS_tt, ↓zS_ll, ↓zS_lt, ↓zS_lk, ↓zS_cut3, ↓zS_r3, ↓zS_r3D, ↓zS_nonI, ↓zS_nonN, ↓zS_ownO]
    exact hq
  | nil =>
    rw [decide_eq_true (by rfl)]
    simp only [↓zHd0, zHp0, ↓zGd0, ↓zGd1, ↓zGd2, ↓zGd3, ↓zGd4, zGp0, startD, ↓List.map_cons, ↓List.map_nil, ↓List.length_cons, ↓List.length_nil, Nat.reduceAdd, Nat.reduceSub, Nat.sub_self, List.replicate, ↓List.cons_append, ↓List.nil_append, List.append_nil, ↓List.getElem?_cons_zero, ↓List.getElem?_cons_succ, ↓List.set_cons_zero, ↓List.set_cons_succ, wipeD, Bool.not_true, Bool.not_false, decide_true, decide_false, beq_self_eq_true, true_and, and_true, Nat.reduceLeDiff, toDs, toDk, toDs_sh, ↓zS_ii, ↓zS_bi, ↓zS_bb, ↓zS_tt, ↓zS_ll, ↓zS_lt, ↓zS_lk, ↓zS_cut3, ↓zS_r3, ↓zS_r3D, ↓zS_nonI, ↓zS_nonN, ↓zS_ownO]
    refine in_order_ok (d := .lst []) (u := []) (sqd_l []) (fun _ z => nomatch z) (Nat.zero_le _) ?_
    rw [Nn_nil.mpr (Qq.refl [])]
    rw [decide_eq_true rfl] at hq
    refine ⟨⟨by decide, by decide⟩, ?_⟩
    have e : eqb (lD []) (.lst []) = true := by rw [show (D.lst []) = lD [] from rfl, lD_eqb]; exact decide_eq_true rfl
    rw [e]
    exact hq
end
def isSide : D → Bool
  | .str x => inD (.str x) [.str (Str.ofString "moon"), .str (Str.ofString "sun")]
  | _ => false
theorem isi_s {x : Str} : isi "str" (.str x) = true := by rfl
theorem isi_ns {d : D} (h : ∀ x, d ≠ .str x) (k : rOk d) : isi "str" d = false ∧ isSide d = false := by
  cases d with
  | str x => exact absurd rfl (h x)
  | obj _ _ => rw [rOk] at k; exact k.elim
  | ktup _ => rw [rOk] at k; exact k.elim
  | bag => rw [rOk] at k; exact k.elim
  | _ => exact ⟨rfl, rfl⟩
theorem side_a {d : D} {Q : D → Prop} (h : rOk d) (hq : Q (.bl (isSide d))) : S_is_side [d] Q := by
  refine ⟨rfl, ?_⟩
  simp only [t_is_side, ↓zHd0, zHp0, ↓zGd0, ↓zGd1, ↓zGd2, ↓zGd3, ↓zGd4, zGp0, startD, ↓List.map_cons, ↓List.map_nil, ↓List.length_cons, ↓List.length_nil, Nat.reduceAdd, Nat.reduceSub, Nat.sub_self, List.replicate, ↓List.cons_append, ↓List.nil_append, List.append_nil, ↓List.getElem?_cons_zero, ↓List.getElem?_cons_succ, ↓List.set_cons_zero, ↓List.set_cons_succ, wipeD, Bool.not_true, Bool.not_false, decide_true, decide_false, beq_self_eq_true, true_and, and_true, Nat.reduceLeDiff, toDs, toDk, toDs_sh, ↓zS_ii, ↓zS_bi, ↓zS_bb, ↓zS_tt, ↓zS_ll, ↓zS_lt, ↓zS_lk, ↓zS_cut3, ↓zS_r3, ↓zS_r3D, ↓zS_nonI, ↓zS_nonN, ↓zS_ownO]
  refine isA h ?_
  by_cases e : ∃ x, d = .str x
  · obtain ⟨x, rfl⟩ := e
    rw [isi_s]
    simp only [↓zHd0, zHp0, ↓zGd0, ↓zGd1, ↓zGd2, ↓zGd3, ↓zGd4, zGp0, startD, ↓List.map_cons, ↓List.map_nil, ↓List.length_cons, ↓List.length_nil, Nat.reduceAdd, Nat.reduceSub, Nat.sub_self, List.replicate, ↓List.cons_append, ↓List.nil_append, List.append_nil, ↓List.getElem?_cons_zero, ↓List.getElem?_cons_succ, ↓List.set_cons_zero, ↓List.set_cons_succ, wipeD, Bool.not_true, Bool.not_false, decide_true, decide_false, beq_self_eq_true, true_and, and_true, Nat.reduceLeDiff, toDs, toDk, toDs_sh, ↓zS_ii, ↓zS_bi, ↓zS_bb, ↓zS_tt, ↓zS_ll, ↓zS_lt, ↓zS_lk, ↓zS_cut3, ↓zS_r3, ↓zS_r3D, ↓zS_nonI, ↓zS_nonN, ↓zS_ownO]
    show oIn false (.str x) (.ktup [.str (Str.ofString "moon"), .str (Str.ofString "sun")]) Q
    exact ⟨⟨rfl, by rfl⟩, hq⟩
  · obtain ⟨e1, e2⟩ := isi_ns (fun x z => e ⟨x, z⟩) h
    rw [e1]
    rw [e2] at hq
    simp only [↓zHd0, zHp0, ↓zGd0, ↓zGd1, ↓zGd2, ↓zGd3, ↓zGd4, zGp0, startD, ↓List.map_cons, ↓List.map_nil, ↓List.length_cons, ↓List.length_nil, Nat.reduceAdd, Nat.reduceSub, Nat.sub_self, List.replicate, ↓List.cons_append, ↓List.nil_append, List.append_nil, ↓List.getElem?_cons_zero, ↓List.getElem?_cons_succ, ↓List.set_cons_zero, ↓List.set_cons_succ, wipeD, Bool.not_true, Bool.not_false, decide_true, decide_false, beq_self_eq_true, true_and, and_true, Nat.reduceLeDiff, toDs, toDk, toDs_sh, ↓zS_ii, ↓zS_bi, ↓zS_bb, ↓zS_tt, ↓zS_ll, ↓zS_lt, ↓zS_lk, ↓zS_cut3, ↓zS_r3, ↓zS_r3D, ↓zS_nonI, ↓zS_nonN, ↓zS_ownO]
    exact hq
def isRib : D → Bool
  | .tup [a, b] => isSide a && isCnt b
  | _ => false
theorem pof_n {A : List Pc} {d : D} {Q : D → Prop} (h : rOk d) (c : isRib d = false) (hq : Q (.lst [])) : S_Heap_pieces_of [hpD A, d] Q := by
  refine ⟨rfl, ?_⟩
  show t_Heap_pieces_of _ [some (.sh (hpD A)), some (.sh d), none]
  simp only [t_Heap_pieces_of, ↓zHd0, zHp0, ↓zGd0, ↓zGd1, ↓zGd2, ↓zGd3, ↓zGd4, zGp0, startD, ↓List.map_cons, ↓List.map_nil, ↓List.length_cons, ↓List.length_nil, Nat.reduceAdd, Nat.reduceSub, Nat.sub_self, List.replicate, ↓List.cons_append, ↓List.nil_append, List.append_nil, ↓List.getElem?_cons_zero, ↓List.getElem?_cons_succ, ↓List.set_cons_zero, ↓List.set_cons_succ, wipeD, Bool.not_true, Bool.not_false, decide_true, decide_false, beq_self_eq_true, true_and, and_true, Nat.reduceLeDiff, toDs, toDk, toDs_sh, ↓zS_ii, ↓zS_bi, ↓zS_bb, ↓zS_tt, ↓zS_ll, ↓zS_lt, ↓zS_lk, ↓zS_cut3, ↓zS_r3, ↓zS_r3D, ↓zS_nonI, ↓zS_nonN, ↓zS_ownO]
  refine isA h ?_
  by_cases ht : ∃ xs, d = .tup xs
  · obtain ⟨xs, rfl⟩ := ht
    rw [isi_t]
    simp only [↓zHd0, zHp0, ↓zGd0, ↓zGd1, ↓zGd2, ↓zGd3, ↓zGd4, zGp0, startD, ↓List.map_cons, ↓List.map_nil, ↓List.length_cons, ↓List.length_nil, Nat.reduceAdd, Nat.reduceSub, Nat.sub_self, List.replicate, ↓List.cons_append, ↓List.nil_append, List.append_nil, ↓List.getElem?_cons_zero, ↓List.getElem?_cons_succ, ↓List.set_cons_zero, ↓List.set_cons_succ, wipeD, Bool.not_true, Bool.not_false, decide_true, decide_false, beq_self_eq_true, true_and, and_true, Nat.reduceLeDiff, toDs, toDk, toDs_sh, ↓zS_ii, ↓zS_bi, ↓zS_bb, ↓zS_tt, ↓zS_ll, ↓zS_lt, ↓zS_lk, ↓zS_cut3, ↓zS_r3, ↓zS_r3D, ↓zS_nonI, ↓zS_nonN, ↓zS_ownO]
    match xs, h, c with
    | [a, b], h, c =>
      rw [rOk, rOkL, rOkL] at h
      obtain ⟨ha, hb, _⟩ := h
      rw [decide_eq_true (by rfl)]
      simp only [↓zHd0, zHp0, ↓zGd0, ↓zGd1, ↓zGd2, ↓zGd3, ↓zGd4, zGp0, startD, ↓List.map_cons, ↓List.map_nil, ↓List.length_cons, ↓List.length_nil, Nat.reduceAdd, Nat.reduceSub, Nat.sub_self, List.replicate, ↓List.cons_append, ↓List.nil_append, List.append_nil, ↓List.getElem?_cons_zero, ↓List.getElem?_cons_succ, ↓List.set_cons_zero, ↓List.set_cons_succ, wipeD, Bool.not_true, Bool.not_false, decide_true, decide_false, beq_self_eq_true, true_and, and_true, Nat.reduceLeDiff, toDs, toDk, toDs_sh, ↓zS_ii, ↓zS_bi, ↓zS_bb, ↓zS_tt, ↓zS_ll, ↓zS_lt, ↓zS_lk, ↓zS_cut3, ↓zS_r3, ↓zS_r3D, ↓zS_nonI, ↓zS_nonN, ↓zS_ownO]
      refine side_a ha ?_
      have c : (isSide a && isCnt b) = false := c
      cases ea : isSide a with
      | false =>
        simp only [↓zHd0, zHp0, ↓zGd0, ↓zGd1, ↓zGd2, ↓zGd3, ↓zGd4, zGp0, startD, ↓List.map_cons, ↓List.map_nil, ↓List.length_cons, ↓List.length_nil, Nat.reduceAdd, Nat.reduceSub, Nat.sub_self, List.replicate, ↓List.cons_append, ↓List.nil_append, List.append_nil, ↓List.getElem?_cons_zero, ↓List.getElem?_cons_succ, ↓List.set_cons_zero, ↓List.set_cons_succ, wipeD, Bool.not_true, Bool.not_false, decide_true, decide_false, beq_self_eq_true, true_and, and_true, Nat.reduceLeDiff, toDs, toDk, toDs_sh, ↓zS_ii, ↓zS_bi, ↓zS_bb, ↓zS_tt, ↓zS_ll, ↓zS_lt, ↓zS_lk, ↓zS_cut3, ↓zS_r3, ↓zS_r3D, ↓zS_nonI, ↓zS_nonN, ↓zS_ownO]
        exact hq
      | true =>
        rw [ea, Bool.true_and] at c
        simp only [↓zHd0, zHp0, ↓zGd0, ↓zGd1, ↓zGd2, ↓zGd3, ↓zGd4, zGp0, startD, ↓List.map_cons, ↓List.map_nil, ↓List.length_cons, ↓List.length_nil, Nat.reduceAdd, Nat.reduceSub, Nat.sub_self, List.replicate, ↓List.cons_append, ↓List.nil_append, List.append_nil, ↓List.getElem?_cons_zero, ↓List.getElem?_cons_succ, ↓List.set_cons_zero, ↓List.set_cons_succ, wipeD, Bool.not_true, Bool.not_false, decide_true, decide_false, beq_self_eq_true, true_and, and_true, Nat.reduceLeDiff, toDs, toDk, toDs_sh, ↓zS_ii, ↓zS_bi, ↓zS_bb, ↓zS_tt, ↓zS_ll, ↓zS_lt, ↓zS_lk, ↓zS_cut3, ↓zS_r3, ↓zS_r3D, ↓zS_nonI, ↓zS_nonN, ↓zS_ownO]
        refine count_a hb ?_
        rw [c]
        simp only [↓zHd0, zHp0, ↓zGd0, ↓zGd1, ↓zGd2, ↓zGd3, ↓zGd4, zGp0, startD, ↓List.map_cons, ↓List.map_nil, ↓List.length_cons, ↓List.length_nil, Nat.reduceAdd, Nat.reduceSub, Nat.sub_self, List.replicate, ↓List.cons_append, ↓List.nil_append, List.append_nil, ↓List.getElem?_cons_zero, ↓List.getElem?_cons_succ, ↓List.set_cons_zero, ↓List.set_cons_succ, wipeD, Bool.not_true, Bool.not_false, decide_true, decide_false, beq_self_eq_true, true_and, and_true, Nat.reduceLeDiff, toDs, toDk, toDs_sh, ↓zS_ii, ↓zS_bi, ↓zS_bb, ↓zS_tt, ↓zS_ll, ↓zS_lt, ↓zS_lk, ↓zS_cut3, ↓zS_r3, ↓zS_r3D, ↓zS_nonI, ↓zS_nonN, ↓zS_ownO]
        exact hq
    | [], _, _ => rw [decide_eq_false (by simp)]; simp only [↓zHd0, zHp0, ↓zGd0, ↓zGd1, ↓zGd2, ↓zGd3, ↓zGd4, zGp0, startD, ↓List.map_cons, ↓List.map_nil, ↓List.length_cons, ↓List.length_nil, Nat.reduceAdd, Nat.reduceSub, Nat.sub_self, List.replicate, ↓List.cons_append, ↓List.nil_append, List.append_nil, ↓List.getElem?_cons_zero, ↓List.getElem?_cons_succ, ↓List.set_cons_zero, ↓List.set_cons_succ, wipeD, Bool.not_true, Bool.not_false, decide_true, decide_false, beq_self_eq_true, true_and, and_true, Nat.reduceLeDiff, toDs, toDk, toDs_sh, ↓zS_ii, ↓zS_bi, ↓zS_bb, ↓zS_tt, ↓zS_ll, ↓zS_lt, ↓zS_lk, ↓zS_cut3, ↓zS_r3, ↓zS_r3D, ↓zS_nonI, ↓zS_nonN, ↓zS_ownO]; exact hq
    | [_], _, _ => rw [decide_eq_false (by simp)]; simp only [↓zHd0, zHp0, ↓zGd0, ↓zGd1, ↓zGd2, ↓zGd3, ↓zGd4, zGp0, startD, ↓List.map_cons, ↓List.map_nil, ↓List.length_cons, ↓List.length_nil, Nat.reduceAdd, Nat.reduceSub, Nat.sub_self, List.replicate, ↓List.cons_append, ↓List.nil_append, List.append_nil, ↓List.getElem?_cons_zero, ↓List.getElem?_cons_succ, ↓List.set_cons_zero, ↓List.set_cons_succ, wipeD, Bool.not_true, Bool.not_false, decide_true, decide_false, beq_self_eq_true, true_and, and_true, Nat.reduceLeDiff, toDs, toDk, toDs_sh, ↓zS_ii, ↓zS_bi, ↓zS_bb, ↓zS_tt, ↓zS_ll, ↓zS_lt, ↓zS_lk, ↓zS_cut3, ↓zS_r3, ↓zS_r3D, ↓zS_nonI, ↓zS_nonN, ↓zS_ownO]; exact hq
    | _ :: _ :: _ :: r, _, _ => rw [decide_eq_false (by simp only [List.length_cons]; omega)]; simp only [↓zHd0, zHp0, ↓zGd0, ↓zGd1, ↓zGd2, ↓zGd3, ↓zGd4, zGp0, startD, ↓List.map_cons, ↓List.map_nil, ↓List.length_cons, ↓List.length_nil, Nat.reduceAdd, Nat.reduceSub, Nat.sub_self, List.replicate, ↓List.cons_append, ↓List.nil_append, List.append_nil, ↓List.getElem?_cons_zero, ↓List.getElem?_cons_succ, ↓List.set_cons_zero, ↓List.set_cons_succ, wipeD, Bool.not_true, Bool.not_false, decide_true, decide_false, beq_self_eq_true, true_and, and_true, Nat.reduceLeDiff, toDs, toDk, toDs_sh, ↓zS_ii, ↓zS_bi, ↓zS_bb, ↓zS_tt, ↓zS_ll, ↓zS_lt, ↓zS_lk, ↓zS_cut3, ↓zS_r3, ↓zS_r3D, ↓zS_nonI, ↓zS_nonN, ↓zS_ownO]; exact hq
  · rw [isi_nt (fun xs e => ht ⟨xs, e⟩) h]
    simp only [↓zHd0, zHp0, ↓zGd0, ↓zGd1, ↓zGd2, ↓zGd3, ↓zGd4, zGp0, startD, ↓List.map_cons, ↓List.map_nil, ↓List.length_cons, ↓List.length_nil, Nat.reduceAdd, Nat.reduceSub, Nat.sub_self, List.replicate, ↓List.cons_append, ↓List.nil_append, List.append_nil, ↓List.getElem?_cons_zero, ↓List.getElem?_cons_succ, ↓List.set_cons_zero, ↓List.set_cons_succ, wipeD, Bool.not_true, Bool.not_false, decide_true, decide_false, beq_self_eq_true, true_and, and_true, Nat.reduceLeDiff, toDs, toDk, toDs_sh, ↓zS_ii, ↓zS_bi, ↓zS_bb, ↓zS_tt, ↓zS_ll, ↓zS_lt, ↓zS_lk, ↓zS_cut3, ↓zS_r3, ↓zS_r3D, ↓zS_nonI, ↓zS_nonN, ↓zS_ownO]
    exact hq
mutual
def rwt : D → Nat
  | .dic ks => wtK ks + 2
  | .lst xs => rwtL xs + 4
  | .tup xs => rwtL xs + 4
  | .non => 4
  | .bl _ => 5
  | .int _ => 2000
  | .str x => 10 * x.length + 2
  | .ktup _ => 4
  | .obj _ _ => 4
  | .bag => 4
def rwtL : List D → Nat
  | [] => 0
  | x :: xs => rwt x + 2 + rwtL xs
end
theorem kpy_up {ks : List (D × D)} (h : RepK ks) : (kpy ks).shown.length ≤ wtK ks + 2 := by
  have a := shownKv_len h.vp h.kp
  unfold kpy
  rw [PyData.shown]
  unfold dictText
  rw [strLen_append, strLen_append]
  have c := join_up (PyData.shownKv (ks.map fun z => (z.1.py, z.2.py)))
  have e1 : (("{" : String) : Str).length = 1 := rfl
  have e2 : (("}" : String) : Str).length = 1 := rfl
  omega
mutual
theorem rpy_len : ∀ d : D, rOk d → (rpy d).shown.length ≤ rwt d
  | .non, _ => by rw [rpy, rwt]; decide +kernel
  | .bl b, _ => by rw [rpy, rwt]; cases b <;> decide +kernel
  | .int i, h => by
    rw [rOk] at h
    rw [rpy, rwt, PyData.shown]
    exact int_text_len (by simpa [D.fine] using h)
  | .str x, h => by
    rw [rOk] at h
    have := py_len (.str x) h.1
    rw [D.py, D.wt] at this
    rw [rpy, rwt]
    exact this
  | .lst xs, h => by
    rw [rOk] at h
    have := rpyL_len xs h
    have h2 := listText_up (PyData.shownAll (rpyL xs))
    rw [rpy, PyData.shown, rwt]
    omega
  | .tup xs, h => by
    rw [rOk] at h
    have := rpyL_len xs h
    have h2 := tupleText_up (PyData.shownAll (rpyL xs))
    rw [rpy, PyData.shown, rwt]
    omega
  | .dic ks, h => by
    rw [rOk] at h
    rw [rpy, rwt]
    exact kpy_up h
  | .obj _ _, h => by rw [rOk] at h; exact h.elim
  | .bag, h => by rw [rOk] at h; exact h.elim
  | .ktup _, h => by rw [rOk] at h; exact h.elim
theorem rpyL_len : ∀ ds : List D, rOkL ds → ((PyData.shownAll (rpyL ds)).map fun t => t.length + 2).sum ≤ rwtL ds
  | [], _ => by simp [rpyL, PyData.shownAll]
  | x :: xs, h => by
    rw [rOkL] at h
    have h1 := rpy_len x h.1
    have h2 := rpyL_len xs h.2
    rw [rpyL, PyData.shownAll, rwtL, List.map_cons, List.sum_cons]
    omega
end
structure Mb (k m : Nat) (d : D) : Prop where
  ok : rOk d
  dp : (rpy d).depth ≤ k
  wt : rwt d ≤ m
theorem Mb.mono {k m k' m' : Nat} {d : D} (h : Mb k m d) (a : k ≤ k') (b : m ≤ m') : Mb k' m' d := ⟨h.ok, Nat.le_trans h.dp a, Nat.le_trans h.wt b⟩
theorem rpyL_dep {k : Nat} : ∀ {xs : List D}, (∀ x ∈ xs, (rpy x).depth ≤ k) → PyData.depthAll (rpyL xs) ≤ k
  | [], _ => by rw [rpyL, PyData.depthAll]; exact Nat.zero_le _
  | x :: xs, h => by
    rw [rpyL, PyData.depthAll]
    exact Nat.max_le.mpr ⟨h x List.mem_cons_self, rpyL_dep fun y hy => h y (List.mem_cons_of_mem _ hy)⟩
theorem rwtL_le {m : Nat} : ∀ {xs : List D}, (∀ x ∈ xs, rwt x ≤ m) → rwtL xs ≤ xs.length * (m + 2)
  | [], _ => by rw [rwtL]; exact Nat.zero_le _
  | x :: xs, h => by
    have a := h x List.mem_cons_self
    have b := rwtL_le (m := m) fun y hy => h y (List.mem_cons_of_mem _ hy)
    rw [rwtL, List.length_cons, Nat.succ_mul]
    omega
theorem mb_tup {k m : Nat} {xs : List D} (n : Nat) (h : ∀ x ∈ xs, Mb k m x) (hl : xs.length ≤ n) : Mb (k + 1) (n * (m + 2) + 4) (.tup xs) := by
  refine ⟨by rw [rOk]; exact rOkL_of fun x hx => (h x hx).ok, ?_, ?_⟩
  · have := rpyL_dep (k := k) fun x hx => (h x hx).dp
    rw [rpy, PyData.depth]; omega
  · have a := rwtL_le (m := m) fun x hx => (h x hx).wt
    have b := Nat.mul_le_mul_right (m + 2) hl
    rw [rwt]; omega
theorem mb_lst {k m : Nat} {xs : List D} (n : Nat) (h : ∀ x ∈ xs, Mb k m x) (hl : xs.length ≤ n) : Mb (k + 1) (n * (m + 2) + 4) (.lst xs) := by
  refine ⟨by rw [rOk]; exact rOkL_of fun x hx => (h x hx).ok, ?_, ?_⟩
  · have := rpyL_dep (k := k) fun x hx => (h x hx).dp
    rw [rpy, PyData.depth]; omega
  · have a := rwtL_le (m := m) fun x hx => (h x hx).wt
    have b := Nat.mul_le_mul_right (m + 2) hl
    rw [rwt]; omega
theorem mb_i {i : Int} (h : (D.int i).fine = true) : Mb 1 2000 (.int i) := ⟨by rw [rOk]; exact h, by rw [rpy, PyData.depth]; omega, by rw [rwt]; omega⟩
theorem mb_b {b : Bool} : Mb 1 2000 (.bl b) := ⟨by rw [rOk]; trivial, by rw [rpy, PyData.depth]; omega, by rw [rwt]; omega⟩
theorem mb_n : Mb 1 2000 .non := ⟨by rw [rOk]; trivial, by rw [rpy, PyData.depth]; omega, by rw [rwt]; omega⟩
theorem mb_s {x : Str} (h1 : D.fine (.str x) = true) (h2 : x.length ≤ 100) : Mb 1 2000 (.str x) := ⟨by
  rw [rOk]
  refine ⟨h1, ?_⟩
  rw [D.wt]
  omega, by rw [rpy, PyData.depth]; omega, by rw [rwt]; omega⟩
theorem mb_d {ks : List (D × D)} (h : RepK ks) (a : (kpy ks).depth ≤ 4) (b : wtK ks ≤ 9000) : Mb 4 10000 (.dic ks) := ⟨by rw [rOk]; exact h, by rw [rpy]; exact a, by rw [rwt]; omega⟩
theorem mb_pc {p : Pc} (h : Okp p) : Mb 2 10000 (pcD p) := by
  unfold pcD
  refine (mb_tup (k := 1) (m := 2000) 4 (fun x hx => ?_) (by exact Nat.le_refl 4)).mono (by decide) (by decide)
  simp only [List.mem_cons, List.not_mem_nil, or_false] at hx
  rcases hx with rfl | rfl | rfl | rfl
  · exact mb_i h.i1
  · exact mb_i h.j1
  · exact mb_b
  · exact mb_b
theorem ten_pow : ∀ n : Nat, n < 61 → intText? (Str.ofString "1" ++ repS (Str.ofString "0") n) = some ((10 ^ n : Nat) : Int) := by decide +kernel
theorem ten_len (n : Nat) : (Str.ofString "1" ++ repS (Str.ofString "0") n).length = n + 1 := by
  rw [strLen_append]
  have e1 : (Str.ofString "1").length = 1 := by decide +kernel
  have e2 : (repS (Str.ofString "0") n).length = n := by
    show (List.replicate n (Str.ofString "0").cps.toList).flatten.toArray.size = _
    rw [List.size_toArray, List.length_flatten, List.map_replicate, List.sum_replicate_nat]
    have : (Str.ofString "0").cps.toList.length = 1 := by decide +kernel
    rw [this]; omega
  rw [e1, e2]; omega
abbrev oddL (nm : Str) (w : Int) : List D := [.int 0, .int 1, .int (-1), .int 2, .int w, .int (-w), .bl true, .bl false, .non, .str (Str.ofString ""), .str (Str.ofString "0"), .str (Str.ofString "1"), .str (Str.ofString "01"), .str (Str.ofString "2"), .str (Str.ofString "a"), .str (Str.ofString " "), .str nm, .str (Str.ofString "Sun"), .lst [], .tup [], .dic [],
  .lst [.int 1], .tup [.int 0], .tup [.int 0, .int 0], .tup [.int 0, .int 0, .int 0], .tup [.str nm], .lst [.str nm], .dic [(.str nm, .int 1)], .tup [.str (Str.ofString "sun"), .int 0], .tup [.str (Str.ofString "moon"), .int 0], .tup [.str (Str.ofString "sun"), .bl true],
  .tup [.str (Str.ofString "turns"), .str (Str.ofString ""), .str (Str.ofString "1")], .tup [.str (Str.ofString "always"), .bl true], .tup [.str (Str.ofString "not"), .tup [.str (Str.ofString "always"), .int 1]], .tup [.lst []], .dic [(.tup [.int 0, .int 0], .str (Str.ofString "1"))], .lst [.tup [.str (Str.ofString "sun"), .int 0]]]
theorem pick_at {xs : List D} {a : Int} {Q : D → Prop} (a0 : 0 ≤ a) (a1 : a < xs.length) (h : ∀ d ∈ xs, Q d) : oIx (.lst xs) (.int a) Q := by
  show (match atI xs a with | some d => Q d | none => False)
  obtain ⟨k, rfl⟩ : ∃ k : Nat, a = k := ⟨a.toNat, by omega⟩
  have hk : k < xs.length := by omega
  have e : atI xs (k : Int) = some xs[k] := atI_q (by omega) (by rw [Int.toNat_natCast]; exact List.getElem?_eq_getElem hk)
  rw [e]
  exact h _ (List.getElem_mem hk)
/-- what is known of an odd value -/
structure Od (d : D) : Prop where
  mb : Mb 4 13000 d
  np : isPc d = false
  ar : arePc d = true → d = .lst [] ∨ d = .tup []
  ln : ∀ xs, d = .lst xs ∨ d = .tup xs → xs.length ≤ 3
theorem Od.ok {d : D} (h : Od d) : rOk d := h.mb.ok
theorem fine_neg {w : Int} (h0 : 0 ≤ w) (h1 : w ≤ 10 ^ 40) : (D.int w).fine = true ∧ (D.int (-w)).fine = true := by
  have a := int_fine h0 h1
  refine ⟨a, ?_⟩
  have e : (-w).natAbs = w.natAbs := Int.natAbs_neg w
  have a : decide (w.natAbs.log2 < 1920) = true := a
  show decide ((-w).natAbs.log2 < 1920) = true
  rw [e]
  exact a
theorem rep_s : RepK [(.str (Str.ofString "sun"), .int 1)] := ⟨by decide +kernel, by decide +kernel, by decide +kernel, .inl (by decide +kernel)⟩
theorem rep_t : RepK [(.tup [.int 0, .int 0], .str (Str.ofString "1"))] := ⟨by decide +kernel, by decide +kernel, by decide +kernel, .inr (by decide +kernel)⟩
theorem rep_n : RepK [] := ⟨(fun _ h => nomatch h), (fun _ h => nomatch h), by decide +kernel, .inl rfl⟩
theorem od_at {d : D} (ok : Mb 4 13000 d) (h : (match d with | .lst _ => false | .tup _ => false | _ => true) = true) : Od d := by
  refine ⟨ok, ?_, fun c => ?_, fun xs e => ?_⟩
  · cases d <;> first | rfl | cases h
  · cases d <;> first | cases c | cases h
  · rcases e with rfl | rfl <;> cases h
theorem oddL_od {w : Int} (h0 : 0 ≤ w) (h1 : w ≤ 10 ^ 40) : ∀ d ∈ oddL (Str.ofString "sun") w, Od d := by
  have hw := fine_neg h0 h1
  have up1 : ∀ {d : D}, Mb 1 2000 d → Mb 3 4008 d := fun h => h.mono (by decide) (by decide)
  have up2 : ∀ {d : D}, Mb 1 2000 d → Mb 4 13000 d := fun h => h.mono (by decide) (by decide)
  have up3 : ∀ {d : D}, Mb 4 10000 d → Mb 4 13000 d := fun h => h.mono (by decide) (by decide)
  have s : ∀ x : Str, D.fine (.str x) = true → x.length ≤ 100 → Od (.str x) := fun x a b => od_at (up2 (mb_s a b)) rfl
  have n : ∀ i : Int, (D.int i).fine = true → Od (.int i) := fun i a => od_at (up2 (mb_i a)) rfl
  have ss : ∀ x : Str, D.fine (.str x) = true → x.length ≤ 100 → Mb 3 4008 (.str x) := fun x a b => up1 (mb_s a b)
  have k0 : Mb 3 4008 (.int 0) := up1 (mb_i (by decide +kernel))
  have k1 : Mb 3 4008 (.int 1) := up1 (mb_i (by decide +kernel))
  have kt : Mb 3 4008 (.bl true) := up1 mb_b
  have ks : Mb 3 4008 (.str (Str.ofString "sun")) := ss _ (by decide +kernel) (by decide +kernel)
  have km : Mb 3 4008 (.str (Str.ofString "moon")) := ss _ (by decide +kernel) (by decide +kernel)
  have ka : Mb 3 4008 (.str (Str.ofString "always")) := ss _ (by decide +kernel) (by decide +kernel)
  have kn : Mb 3 4008 (.tup [.str (Str.ofString "always"), .int 1]) := (mb_tup (k := 1) (m := 2000) 2 (fun x hx => by
    simp only [List.mem_cons, List.not_mem_nil, or_false] at hx
    rcases hx with rfl | rfl
    · exact mb_s (by decide +kernel) (by decide +kernel)
    · exact mb_i (by decide +kernel)) (by exact Nat.le_refl 2)).mono (by decide) (by decide)
  have kl : Mb 3 4008 (.lst []) := (mb_lst (k := 1) (m := 2000) (xs := []) 0 (fun _ h => nomatch h) (by exact Nat.le_refl 0)).mono (by decide) (by decide)
  have kp : Mb 3 4008 (.tup [.str (Str.ofString "sun"), .int 0]) := (mb_tup (k := 1) (m := 2000) 2 (fun x hx => by
    simp only [List.mem_cons, List.not_mem_nil, or_false] at hx
    rcases hx with rfl | rfl
    · exact mb_s (by decide +kernel) (by decide +kernel)
    · exact mb_i (by decide +kernel)) (by exact Nat.le_refl 2)).mono (by decide) (by decide)
  have r0 : ∀ x ∈ ([] : List D), Mb 3 4008 x := fun _ h => nomatch h
  have r1 : ∀ {a : D}, Mb 3 4008 a → ∀ x ∈ [a], Mb 3 4008 x := fun a x h => by rw [List.mem_singleton.mp h]; exact a
  have r2 : ∀ {a b : D}, Mb 3 4008 a → Mb 3 4008 b → ∀ x ∈ [a, b], Mb 3 4008 x := fun a b x h => (List.mem_cons.mp h).elim (fun e => e ▸ a) (r1 b x)
  have r3 : ∀ {a b c : D}, Mb 3 4008 a → Mb 3 4008 b → Mb 3 4008 c → ∀ x ∈ [a, b, c], Mb 3 4008 x := fun a b c x h => (List.mem_cons.mp h).elim (fun e => e ▸ a) (r2 b c x)
  have l : ∀ xs, (∀ x ∈ xs, Mb 3 4008 x) → (xs = [] ∨ xs.all isPc = false) → xs.length ≤ 3 → Od (.lst xs) := fun xs a b c =>
    ⟨(mb_lst 3 a c).mono (by decide) (by decide), rfl, fun e => b.elim (fun z => .inl (by rw [z])) fun z => absurd (show xs.all isPc = true from e) (by rw [z]; exact Bool.false_ne_true), fun ys e => by
      rcases e with e | e
      · cases e; exact c
      · cases e⟩
  have t : ∀ xs, (∀ x ∈ xs, Mb 3 4008 x) → (xs = [] ∨ xs.all isPc = false) → xs.length ≤ 3 → isPc (.tup xs) = false → Od (.tup xs) := fun xs a b c f =>
    ⟨(mb_tup 3 a c).mono (by decide) (by decide), f, fun e => b.elim (fun z => .inr (by rw [z])) fun z => absurd (show xs.all isPc = true from e) (by rw [z]; exact Bool.false_ne_true), fun ys e => by
      rcases e with e | e
      · cases e
      · cases e; exact c⟩
  unfold oddL
  simp only [List.forall_mem_cons]
  refine ⟨n _ (by decide +kernel), n _ (by decide +kernel), n _ (by decide +kernel), n _ (by decide +kernel), n _ hw.1, n _ hw.2, od_at (up2 mb_b) rfl, od_at (up2 mb_b) rfl, od_at (up2 mb_n) rfl,
    s _ (by decide +kernel) (by decide +kernel), s _ (by decide +kernel) (by decide +kernel), s _ (by decide +kernel) (by decide +kernel), s _ (by decide +kernel) (by decide +kernel), s _ (by decide +kernel) (by decide +kernel), s _ (by decide +kernel) (by decide +kernel), s _ (by decide +kernel) (by decide +kernel), s _ (by decide +kernel) (by decide +kernel), s _ (by decide +kernel) (by decide +kernel),
    l _ r0 (.inl rfl) (by decide), t _ r0 (.inl rfl) (by decide) rfl, od_at (up3 (mb_d rep_n (by decide +kernel) (by decide +kernel))) rfl,
    l _ (r1 k1) (.inr rfl) (by decide), t _ (r1 k0) (.inr rfl) (by decide) rfl, t _ (r2 k0 k0) (.inr rfl) (by decide) rfl, t _ (r3 k0 k0 k0) (.inr rfl) (by decide) rfl, t _ (r1 ks) (.inr rfl) (by decide) rfl, l _ (r1 ks) (.inr rfl) (by decide), od_at (up3 (mb_d rep_s (by decide +kernel) (by decide +kernel))) rfl,
    t _ (r2 ks k0) (.inr rfl) (by decide) rfl, t _ (r2 km k0) (.inr rfl) (by decide) rfl, t _ (r2 ks kt) (.inr rfl) (by decide) rfl,
    t _ (r3 (ss _ (by decide +kernel) (by decide +kernel)) (ss _ (by decide +kernel) (by decide +kernel)) (ss _ (by decide +kernel) (by decide +kernel))) (.inr rfl) (by decide) rfl, t _ (r2 ka kt) (.inr rfl) (by decide) rfl,
    t _ (r2 (ss _ (by decide +kernel) (by decide +kernel)) kn) (.inr rfl) (by decide) rfl, t _ (r1 kl) (.inr rfl) (by decide) rfl, od_at (up3 (mb_d rep_t (by decide +kernel) (by decide +kernel))) rfl,
    l _ (r1 kp) (.inr rfl) (by decide), fun _ h => nomatch h⟩
theorem odd_ok {Q : D → Prop} (hq : ∀ d, Od d → Q d) : S__law_odd [.bag, .str (Str.ofString "sun")] Q := by
  refine ⟨rfl, ?_⟩
  show t__law_odd _ [some (.sh .bag), some (.sh (.str (Str.ofString "sun"))), none, none]
  simp only [t__law_odd, ↓zHd0, zHp0, ↓zGd0, ↓zGd1, ↓zGd2, ↓zGd3, ↓zGd4, zGp0, startD, ↓List.map_cons, ↓List.map_nil, ↓List.length_cons, ↓List.length_nil, Nat.reduceAdd, Nat.reduceSub, Nat.sub_self, List.replicate, ↓List.cons_append, ↓List.nil_append, List.append_nil, ↓List.getElem?_cons_zero, ↓List.getElem?_cons_succ, ↓List.set_cons_zero, ↓List.set_cons_succ, wipeD, Bool.not_true, Bool.not_false, decide_true, decide_false, beq_self_eq_true, true_and, and_true, Nat.reduceLeDiff, toDs, toDk, toDs_sh, ↓zS_ii, ↓zS_bi, ↓zS_bb, ↓zS_tt, ↓zS_ll, ↓zS_lt, ↓zS_lk, ↓zS_cut3, ↓zS_r3, ↓zS_r3D, ↓zS_nonI, ↓zS_nonN, ↓zS_ownO]
  refine ⟨⟨by decide, by decide +kernel⟩, fun v v0 v1 => ?_⟩
  simp only [↓zHd0, zHp0, ↓zGd0, ↓zGd1, ↓zGd2, ↓zGd3, ↓zGd4, zGp0, startD, ↓List.map_cons, ↓List.map_nil, ↓List.length_cons, ↓List.length_nil, Nat.reduceAdd, Nat.reduceSub, Nat.sub_self, List.replicate, ↓List.cons_append, ↓List.nil_append, List.append_nil, ↓List.getElem?_cons_zero, ↓List.getElem?_cons_succ, ↓List.set_cons_zero, ↓List.set_cons_succ, wipeD, Bool.not_true, Bool.not_false, decide_true, decide_false, beq_self_eq_true, true_and, and_true, Nat.reduceLeDiff, toDs, toDk, toDs_sh, ↓zS_ii, ↓zS_bi, ↓zS_bb, ↓zS_tt, ↓zS_ll, ↓zS_lt, ↓zS_lk, ↓zS_cut3, ↓zS_r3, ↓zS_r3D, ↓zS_nonI, ↓zS_nonN, ↓zS_ownO]
  have e1 : (Str.ofString "1").length = 1 := by decide +kernel
  have e0 : (Str.ofString "0").length = 1 := by decide +kernel
  have hv : v.toNat < 61 := by omega
  have e2 := ten_len v.toNat
  rw [strLen_append] at e2
  refine ⟨⟨v0, by omega, by rw [e0]; decide⟩, by rw [e2, sizeLine_eq]; omega, ?_⟩
  show (match intText? (Str.ofString "1" ++ repS (Str.ofString "0") v.toNat) with | some i => _ | none => False)
  rw [ten_pow _ hv]
  refine ⟨by rw [ten_len]; omega, ?_⟩
  have hw0 : (0 : Int) ≤ ((10 ^ v.toNat : Nat) : Int) := Int.natCast_nonneg _
  have hw1 : ((10 ^ v.toNat : Nat) : Int) ≤ 10 ^ 40 := by
    have z : 10 ^ v.toNat ≤ 10 ^ 40 := Nat.pow_le_pow_right (by decide) (by omega)
    exact_mod_cast z
  generalize ((10 ^ v.toNat : Nat) : Int) = w at hw0 hw1 ⊢
  simp only [_law_odd_at_2, ↓zHd0, zHp0, ↓zGd0, ↓zGd1, ↓zGd2, ↓zGd3, ↓zGd4, zGp0, startD, ↓List.map_cons, ↓List.map_nil, ↓List.length_cons, ↓List.length_nil, Nat.reduceAdd, Nat.reduceSub, Nat.sub_self, List.replicate, ↓List.cons_append, ↓List.nil_append, List.append_nil, ↓List.getElem?_cons_zero, ↓List.getElem?_cons_succ, ↓List.set_cons_zero, ↓List.set_cons_succ, wipeD, Bool.not_true, Bool.not_false, decide_true, decide_false, beq_self_eq_true, true_and, and_true, Nat.reduceLeDiff, toDs, toDk, toDs_sh, ↓zS_ii, ↓zS_bi, ↓zS_bb, ↓zS_tt, ↓zS_ll, ↓zS_lt, ↓zS_lk, ↓zS_cut3, ↓zS_r3, ↓zS_r3D, ↓zS_nonI, ↓zS_nonN, ↓zS_ownO]
  intro v3
  simp only [_law_odd_at_3, ↓zHd0, zHp0, ↓zGd0, ↓zGd1, ↓zGd2, ↓zGd3, ↓zGd4, zGp0, startD, ↓List.map_cons, ↓List.map_nil, ↓List.length_cons, ↓List.length_nil, Nat.reduceAdd, Nat.reduceSub, Nat.sub_self, List.replicate, ↓List.cons_append, ↓List.nil_append, List.append_nil, ↓List.getElem?_cons_zero, ↓List.getElem?_cons_succ, ↓List.set_cons_zero, ↓List.set_cons_succ, wipeD, Bool.not_true, Bool.not_false, decide_true, decide_false, beq_self_eq_true, true_and, and_true, Nat.reduceLeDiff, toDs, toDk, toDs_sh, ↓zS_ii, ↓zS_bi, ↓zS_bb, ↓zS_tt, ↓zS_ll, ↓zS_lt, ↓zS_lk, ↓zS_cut3, ↓zS_r3, ↓zS_r3D, ↓zS_nonI, ↓zS_nonN, ↓zS_ownO]
  refine ⟨rfl, by rw [sizeLine_eq]; decide, ?_⟩
  simp only [_law_odd_at_4, ↓zHd0, zHp0, ↓zGd0, ↓zGd1, ↓zGd2, ↓zGd3, ↓zGd4, zGp0, startD, ↓List.map_cons, ↓List.map_nil, ↓List.length_cons, ↓List.length_nil, Nat.reduceAdd, Nat.reduceSub, Nat.sub_self, List.replicate, ↓List.cons_append, ↓List.nil_append, List.append_nil, ↓List.getElem?_cons_zero, ↓List.getElem?_cons_succ, ↓List.set_cons_zero, ↓List.set_cons_succ, wipeD, Bool.not_true, Bool.not_false, decide_true, decide_false, beq_self_eq_true, true_and, and_true, Nat.reduceLeDiff, toDs, toDk, toDs_sh, ↓zS_ii, ↓zS_bi, ↓zS_bb, ↓zS_tt, ↓zS_ll, ↓zS_lt, ↓zS_lk, ↓zS_cut3, ↓zS_r3, ↓zS_r3D, ↓zS_nonI, ↓zS_nonN, ↓zS_ownO]
  refine ⟨rfl, by rw [sizeLine_eq]; decide, ?_⟩
  simp only [_law_odd_at_5, ↓zHd0, zHp0, ↓zGd0, ↓zGd1, ↓zGd2, ↓zGd3, ↓zGd4, zGp0, startD, ↓List.map_cons, ↓List.map_nil, ↓List.length_cons, ↓List.length_nil, Nat.reduceAdd, Nat.reduceSub, Nat.sub_self, List.replicate, ↓List.cons_append, ↓List.nil_append, List.append_nil, ↓List.getElem?_cons_zero, ↓List.getElem?_cons_succ, ↓List.set_cons_zero, ↓List.set_cons_succ, wipeD, Bool.not_true, Bool.not_false, decide_true, decide_false, beq_self_eq_true, true_and, and_true, Nat.reduceLeDiff, toDs, toDk, toDs_sh, ↓zS_ii, ↓zS_bi, ↓zS_bb, ↓zS_tt, ↓zS_ll, ↓zS_lt, ↓zS_lk, ↓zS_cut3, ↓zS_r3, ↓zS_r3D, ↓zS_nonI, ↓zS_nonN, ↓zS_ownO]
  refine ⟨⟨by decide, by decide +kernel⟩, fun a a0 a1 => ?_⟩
  refine pick_at a0 (by exact a1) fun d hd => hq d ?_
  exact oddL_od hw0 hw1 d hd
theorem handed_ok {xs : List D} {Q : D → Prop} (hl : xs.length ≤ 100000) (h1 : Q (.lst xs)) (h2 : Q (.tup xs)) : S__law_handed [.bag, .lst xs] Q := by
  refine ⟨rfl, ?_⟩
  simp only [t__law_handed, ↓zHd0, zHp0, ↓zGd0, ↓zGd1, ↓zGd2, ↓zGd3, ↓zGd4, zGp0, startD, ↓List.map_cons, ↓List.map_nil, ↓List.length_cons, ↓List.length_nil, Nat.reduceAdd, Nat.reduceSub, Nat.sub_self, List.replicate, ↓List.cons_append, ↓List.nil_append, List.append_nil, ↓List.getElem?_cons_zero, ↓List.getElem?_cons_succ, ↓List.set_cons_zero, ↓List.set_cons_succ, wipeD, Bool.not_true, Bool.not_false, decide_true, decide_false, beq_self_eq_true, true_and, and_true, Nat.reduceLeDiff, toDs, toDk, toDs_sh, ↓zS_ii, ↓zS_bi, ↓zS_bb, ↓zS_tt, ↓zS_ll, ↓zS_lt, ↓zS_lk, ↓zS_cut3, ↓zS_r3, ↓zS_r3D, ↓zS_nonI, ↓zS_nonN, ↓zS_ownO]
  refine take_ok (by decide) (by decide) fun v v0 v1 => pick_at v0 (by exact v1) fun d hd => ?_
  rcases List.mem_cons.mp hd with rfl | hd
  · exact h1
  · rcases List.mem_cons.mp hd with rfl | hd
    · exact h2
    · exact nomatch hd
theorem atD_all {xs : List D} {a : Int} {K : D → Prop} (a0 : 0 ≤ a) (a1 : a < xs.length) (h : ∀ d ∈ xs, K d) : atD (atI xs a) K := by
  rw [atI_pos a0 a1]
  exact h _ (List.getElem_mem _)
theorem cut_mem (xs : List D) (a b : Option Int) : (cut xs a b).length ≤ xs.length ∧ ∀ x ∈ cut xs a b, x ∈ xs := by
  unfold cut
  refine ⟨by rw [List.length_take, List.length_drop]; omega, fun x hx => List.mem_of_mem_drop (List.mem_of_mem_take hx)⟩
theorem okp_0 : Okp (0, 0, true, true) := ⟨by decide, by decide +kernel, by decide, by decide +kernel⟩
theorem spoilt_ok {u : List Pc} {o : D} {Q : D → Prop} (hu : Okl u) (hl : u.length ≤ 5) (ho : Od o) (hq : ∀ xs, (∀ x ∈ xs, Mb 5 150000 x) → xs.length ≤ 12 → Q (.lst xs) ∧ Q (.tup xs)) : S__law_spoilt [.bag, lD u, o] Q := by
  refine ⟨rfl, ?_⟩
  show t__law_spoilt _ [some (.sh .bag), some (.sh (lD u)), some (.sh o), none, none, none, none, none, none]
  unfold lD
  simp only [t__law_spoilt, ↓zHd0, zHp0, ↓zGd0, ↓zGd1, ↓zGd2, ↓zGd3, ↓zGd4, zGp0, startD, ↓List.map_cons, ↓List.map_nil, ↓List.length_cons, ↓List.length_nil, Nat.reduceAdd, Nat.reduceSub, Nat.sub_self, List.replicate, ↓List.cons_append, ↓List.nil_append, List.append_nil, ↓List.getElem?_cons_zero, ↓List.getElem?_cons_succ, ↓List.set_cons_zero, ↓List.set_cons_succ, wipeD, Bool.not_true, Bool.not_false, decide_true, decide_false, beq_self_eq_true, true_and, and_true, Nat.reduceLeDiff, toDs, toDk, toDs_sh, ↓zS_ii, ↓zS_bi, ↓zS_bb, ↓zS_tt, ↓zS_ll, ↓zS_lt, ↓zS_lk, ↓zS_cut3, ↓zS_r3, ↓zS_r3D, ↓zS_nonI, ↓zS_nonN, ↓zS_ownO]
  rw [List.length_map]
  refine take_ok (by omega) (by omega) fun a a0 a1 => ?_
  refine take_ok (by decide) (by decide) fun p p0 p1 => ?_
  refine take_ok (by decide) (by decide) fun w w0 w1 => ?_
  intro _ _ _
  simp only [_law_spoilt_at_2, ↓zHd0, zHp0, ↓zGd0, ↓zGd1, ↓zGd2, ↓zGd3, ↓zGd4, zGp0, startD, ↓List.map_cons, ↓List.map_nil, ↓List.length_cons, ↓List.length_nil, Nat.reduceAdd, Nat.reduceSub, Nat.sub_self, List.replicate, ↓List.cons_append, ↓List.nil_append, List.append_nil, ↓List.getElem?_cons_zero, ↓List.getElem?_cons_succ, ↓List.set_cons_zero, ↓List.set_cons_succ, wipeD, Bool.not_true, Bool.not_false, decide_true, decide_false, beq_self_eq_true, true_and, and_true, Nat.reduceLeDiff, toDs, toDk, toDs_sh, ↓zS_ii, ↓zS_bi, ↓zS_bb, ↓zS_tt, ↓zS_ll, ↓zS_lt, ↓zS_lk, ↓zS_cut3, ↓zS_r3, ↓zS_r3D, ↓zS_nonI, ↓zS_nonN, ↓zS_ownO]
  refine ⟨by rw [List.length_map, sizeLine_eq]; omega, atD_all a0 (by rw [List.length_append, List.length_map, List.length_singleton]; omega) fun d hd => ?_⟩
  obtain ⟨q, rfl, oq⟩ : ∃ q, d = pcD q ∧ Okp q := by
    rcases List.mem_append.mp hd with hd | hd
    · obtain ⟨q, hq, rfl⟩ := List.mem_map.mp hd
      exact ⟨q, rfl, hu q hq⟩
    · rw [List.mem_singleton.mp hd]
      exact ⟨(0, 0, true, true), rfl, okp_0⟩
  have hp : p = 0 ∨ p = 1 ∨ p = 2 ∨ p = 3 := by omega
  have fin : ∀ d : D, Mb 4 13000 d → _law_spoilt_at_4 { nx := fun x => Q D.non, rt := Q } [some (SD.sh D.bag), some (SD.sh (D.lst (u.map pcD))), some (SD.sh o), some (SD.sh (D.int a)), some (SD.sh (D.int p)), some (SD.sh (D.int w)), some (SD.sh (pcD q)), some (SD.sh d), none] := fun d od => by
    unfold pcD
    simp only [_law_spoilt_at_4, ↓zHd0, zHp0, ↓zGd0, ↓zGd1, ↓zGd2, ↓zGd3, ↓zGd4, zGp0, startD, ↓List.map_cons, ↓List.map_nil, ↓List.length_cons, ↓List.length_nil, Nat.reduceAdd, Nat.reduceSub, Nat.sub_self, List.replicate, ↓List.cons_append, ↓List.nil_append, List.append_nil, ↓List.getElem?_cons_zero, ↓List.getElem?_cons_succ, ↓List.set_cons_zero, ↓List.set_cons_succ, wipeD, Bool.not_true, Bool.not_false, decide_true, decide_false, beq_self_eq_true, true_and, and_true, Nat.reduceLeDiff, toDs, toDk, toDs_sh, ↓zS_ii, ↓zS_bi, ↓zS_bb, ↓zS_tt, ↓zS_ll, ↓zS_lt, ↓zS_lk, ↓zS_cut3, ↓zS_r3, ↓zS_r3D, ↓zS_nonI, ↓zS_nonN, ↓zS_ownO]
    have c1 : (cut [D.int q.fst, D.int q.snd.fst, D.bl q.snd.snd.fst, D.bl q.snd.snd.snd] none (some p)).length ≤ 4 ∧ ∀ x ∈ cut [D.int q.fst, D.int q.snd.fst, D.bl q.snd.snd.fst, D.bl q.snd.snd.snd] none (some p), x ∈ [D.int q.fst, D.int q.snd.fst, D.bl q.snd.snd.fst, D.bl q.snd.snd.snd] := cut_mem _ _ _
    have c2 : (cut [D.int q.fst, D.int q.snd.fst, D.bl q.snd.snd.fst, D.bl q.snd.snd.snd] (some (p + 1)) none).length ≤ 4 ∧ ∀ x ∈ cut [D.int q.fst, D.int q.snd.fst, D.bl q.snd.snd.fst, D.bl q.snd.snd.snd] (some (p + 1)) none, x ∈ [D.int q.fst, D.int q.snd.fst, D.bl q.snd.snd.fst, D.bl q.snd.snd.snd] := cut_mem _ _ _
    generalize cut [D.int q.fst, D.int q.snd.fst, D.bl q.snd.snd.fst, D.bl q.snd.snd.snd] none (some p) = l1 at c1 ⊢
    generalize cut [D.int q.fst, D.int q.snd.fst, D.bl q.snd.snd.fst, D.bl q.snd.snd.snd] (some (p + 1)) none = l2 at c2 ⊢
    obtain ⟨c1, m1⟩ := c1
    obtain ⟨c2, m2⟩ := c2
    refine ⟨by rw [sizeLine_eq]; omega, by rw [List.length_append, List.length_singleton, sizeLine_eq]; omega, by rw [sizeLine_eq]; omega, by rw [sizeLine_eq]; omega, ?_⟩
    have op : ∀ x ∈ [D.int q.fst, D.int q.snd.fst, D.bl q.snd.snd.fst, D.bl q.snd.snd.snd], Mb 4 13000 x := fun x hx => by
      simp only [List.mem_cons, List.not_mem_nil, or_false] at hx
      rcases hx with rfl | rfl | rfl | rfl
      · exact (mb_i oq.i1).mono (by decide) (by decide)
      · exact (mb_i oq.j1).mono (by decide) (by decide)
      · exact mb_b.mono (by decide) (by decide)
      · exact mb_b.mono (by decide) (by decide)
    have near : ∀ x ∈ [D.tup (l1 ++ [d] ++ l2), D.tup (l1 ++ l2), D.tup [D.int q.fst, D.int q.snd.fst, D.bl q.snd.snd.fst, D.bl q.snd.snd.snd, o], D.lst [D.int q.fst, D.int q.snd.fst, D.bl q.snd.snd.fst, D.bl q.snd.snd.snd]] ++ [o], Mb 5 150000 x := fun x hx => by
      simp only [List.cons_append, List.nil_append, List.mem_cons, List.not_mem_nil, or_false] at hx
      rcases hx with rfl | rfl | rfl | rfl | rfl
      · refine (mb_tup 9 (fun z hz => ?_) (by rw [List.length_append, List.length_append, List.length_singleton]; omega)).mono (Nat.le_refl 5) (show 9 * (13000 + 2) + 4 ≤ 150000 by decide)
        rcases List.mem_append.mp hz with hz | hz
        · rcases List.mem_append.mp hz with hz | hz
          · exact op z (m1 z hz)
          · rw [List.mem_singleton.mp hz]; exact od
        · exact op z (m2 z hz)
      · refine (mb_tup 9 (fun z hz => ?_) (by rw [List.length_append]; omega)).mono (Nat.le_refl 5) (show 9 * (13000 + 2) + 4 ≤ 150000 by decide)
        rcases List.mem_append.mp hz with hz | hz
        · exact op z (m1 z hz)
        · exact op z (m2 z hz)
      · refine (mb_tup 5 (fun z hz => ?_) (by exact Nat.le_refl 5)).mono (Nat.le_refl 5) (show 5 * (13000 + 2) + 4 ≤ 150000 by decide)
        simp only [List.mem_cons, List.not_mem_nil, or_false] at hz
        rcases hz with rfl | rfl | rfl | rfl | rfl
        · exact op _ (by simp)
        · exact op _ (by simp)
        · exact op _ (by simp)
        · exact op _ (by simp)
        · exact ho.mb
      · exact (mb_lst 4 op (by exact Nat.le_refl 4)).mono (Nat.le_refl 5) (show 4 * (13000 + 2) + 4 ≤ 150000 by decide)
      · exact ho.mb.mono (by decide) (by decide)
    generalize hnr : [D.tup (l1 ++ [d] ++ l2), D.tup (l1 ++ l2), D.tup [D.int q.fst, D.int q.snd.fst, D.bl q.snd.snd.fst, D.bl q.snd.snd.snd, o], D.lst [D.int q.fst, D.int q.snd.fst, D.bl q.snd.snd.fst, D.bl q.snd.snd.snd]] = nr at near ⊢
    have hn : nr.length = 4 := by rw [← hnr]; rfl
    have d1 := cut_mem (u.map pcD) none (some a)
    have d2 := cut_mem (u.map pcD) (some (a + 1)) none
    rw [List.length_map] at d1 d2
    have hmap : ∀ x ∈ u.map pcD, Mb 5 150000 x := fun x hx => by
      obtain ⟨z, hz, rfl⟩ := List.mem_map.mp hx
      exact (mb_pc (hu z hz)).mono (by decide) (by decide)
    unfold pcD at d1 d2 hmap
    simp only [_law_spoilt_at_5, ↓zHd0, zHp0, ↓zGd0, ↓zGd1, ↓zGd2, ↓zGd3, ↓zGd4, zGp0, startD, ↓List.map_cons, ↓List.map_nil, ↓List.length_cons, ↓List.length_nil, Nat.reduceAdd, Nat.reduceSub, Nat.sub_self, List.replicate, ↓List.cons_append, ↓List.nil_append, List.append_nil, ↓List.getElem?_cons_zero, ↓List.getElem?_cons_succ, ↓List.set_cons_zero, ↓List.set_cons_succ, wipeD, Bool.not_true, Bool.not_false, decide_true, decide_false, beq_self_eq_true, true_and, and_true, Nat.reduceLeDiff, toDs, toDk, toDs_sh, ↓zS_ii, ↓zS_bi, ↓zS_bb, ↓zS_tt, ↓zS_ll, ↓zS_lt, ↓zS_lk, ↓zS_cut3, ↓zS_r3, ↓zS_r3D, ↓zS_nonI, ↓zS_nonN, ↓zS_ownO]
    generalize cut (List.map (fun p : Pc => D.tup [D.int p.fst, D.int p.snd.fst, D.bl p.snd.snd.fst, D.bl p.snd.snd.snd]) u) none (some a) = g1 at d1 ⊢
    generalize cut (List.map (fun p : Pc => D.tup [D.int p.fst, D.int p.snd.fst, D.bl p.snd.snd.fst, D.bl p.snd.snd.snd]) u) (some (a + 1)) none = g2 at d2 ⊢
    refine ⟨by rw [sizeLine_eq]; omega, atD_all w0 (by rw [List.length_append, List.length_singleton]; omega) fun x hx => ?_⟩
    refine ⟨by rw [sizeLine_eq]; omega, by rw [List.length_append, List.length_singleton, sizeLine_eq]; omega, ?_⟩
    have h := hq (g1 ++ [x] ++ g2) (fun z hz => by
      rcases List.mem_append.mp hz with hz | hz
      · rcases List.mem_append.mp hz with hz | hz
        · exact hmap z (d1.2 z hz)
        · rw [List.mem_singleton.mp hz]; exact near x hx
      · exact hmap z (d2.2 z hz)) (by rw [List.length_append, List.length_append, List.length_singleton]; omega)
    exact handed_ok (by rw [List.length_append, List.length_append, List.length_singleton]; omega) h.1 h.2
  have mid : ∀ x : D, Mb 4 13000 x → S__law_take [D.bag, D.int 4] fun y => oIx (D.lst [o, x, D.int (-1), D.non]) y fun d => _law_spoilt_at_4 { nx := fun x => Q D.non, rt := Q } [some (SD.sh D.bag), some (SD.sh (D.lst (u.map pcD))), some (SD.sh o), some (SD.sh (D.int a)), some (SD.sh (D.int p)), some (SD.sh (D.int w)), some (SD.sh (pcD q)), some (SD.sh d), none] := fun x ox =>
    take_ok (by decide) (by decide) fun y y0 y1 => pick_at y0 (by exact y1) fun d hd => fin d (by
      simp only [List.mem_cons, List.not_mem_nil, or_false] at hd
      rcases hd with rfl | rfl | rfl | rfl
      · exact ho.mb
      · exact ox
      · exact (mb_i (by decide +kernel)).mono (by decide) (by decide)
      · exact mb_n.mono (by decide) (by decide))
  have bk : ∀ b : Bool, Mb 4 13000 (.bl b) := fun b => mb_b.mono (by decide) (by decide)
  rcases hp with rfl | rfl | rfl | rfl
  · unfold pcD at mid ⊢
    simp only [_law_spoilt_at_3, ↓zHd0, zHp0, ↓zGd0, ↓zGd1, ↓zGd2, ↓zGd3, ↓zGd4, zGp0, startD, ↓List.map_cons, ↓List.map_nil, ↓List.length_cons, ↓List.length_nil, Nat.reduceAdd, Nat.reduceSub, Nat.sub_self, List.replicate, ↓List.cons_append, ↓List.nil_append, List.append_nil, ↓List.getElem?_cons_zero, ↓List.getElem?_cons_succ, ↓List.set_cons_zero, ↓List.set_cons_succ, wipeD, Bool.not_true, Bool.not_false, decide_true, decide_false, beq_self_eq_true, true_and, and_true, Nat.reduceLeDiff, toDs, toDk, toDs_sh, ↓zS_ii, ↓zS_bi, ↓zS_bb, ↓zS_tt, ↓zS_ll, ↓zS_lt, ↓zS_lk, ↓zS_cut3, ↓zS_r3, ↓zS_r3D, ↓zS_nonI, ↓zS_nonN, ↓zS_ownO]
    exact mid _ (bk _)
  · unfold pcD at mid ⊢
    simp only [_law_spoilt_at_3, ↓zHd0, zHp0, ↓zGd0, ↓zGd1, ↓zGd2, ↓zGd3, ↓zGd4, zGp0, startD, ↓List.map_cons, ↓List.map_nil, ↓List.length_cons, ↓List.length_nil, Nat.reduceAdd, Nat.reduceSub, Nat.sub_self, List.replicate, ↓List.cons_append, ↓List.nil_append, List.append_nil, ↓List.getElem?_cons_zero, ↓List.getElem?_cons_succ, ↓List.set_cons_zero, ↓List.set_cons_succ, wipeD, Bool.not_true, Bool.not_false, decide_true, decide_false, beq_self_eq_true, true_and, and_true, Nat.reduceLeDiff, toDs, toDk, toDs_sh, ↓zS_ii, ↓zS_bi, ↓zS_bb, ↓zS_tt, ↓zS_ll, ↓zS_lt, ↓zS_lk, ↓zS_cut3, ↓zS_r3, ↓zS_r3D, ↓zS_nonI, ↓zS_nonN, ↓zS_ownO]
    exact mid _ (bk _)
  · unfold pcD at mid ⊢
    simp only [_law_spoilt_at_3, ↓zHd0, zHp0, ↓zGd0, ↓zGd1, ↓zGd2, ↓zGd3, ↓zGd4, zGp0, startD, ↓List.map_cons, ↓List.map_nil, ↓List.length_cons, ↓List.length_nil, Nat.reduceAdd, Nat.reduceSub, Nat.sub_self, List.replicate, ↓List.cons_append, ↓List.nil_append, List.append_nil, ↓List.getElem?_cons_zero, ↓List.getElem?_cons_succ, ↓List.set_cons_zero, ↓List.set_cons_succ, wipeD, Bool.not_true, Bool.not_false, decide_true, decide_false, beq_self_eq_true, true_and, and_true, Nat.reduceLeDiff, toDs, toDk, toDs_sh, ↓zS_ii, ↓zS_bi, ↓zS_bb, ↓zS_tt, ↓zS_ll, ↓zS_lt, ↓zS_lk, ↓zS_cut3, ↓zS_r3, ↓zS_r3D, ↓zS_nonI, ↓zS_nonN, ↓zS_ownO]
    exact mid _ ((mb_i (by cases q.2.2.1 <;> decide +kernel)).mono (by decide) (by decide))
  · unfold pcD at mid ⊢
    simp only [_law_spoilt_at_3, ↓zHd0, zHp0, ↓zGd0, ↓zGd1, ↓zGd2, ↓zGd3, ↓zGd4, zGp0, startD, ↓List.map_cons, ↓List.map_nil, ↓List.length_cons, ↓List.length_nil, Nat.reduceAdd, Nat.reduceSub, Nat.sub_self, List.replicate, ↓List.cons_append, ↓List.nil_append, List.append_nil, ↓List.getElem?_cons_zero, ↓List.getElem?_cons_succ, ↓List.set_cons_zero, ↓List.set_cons_succ, wipeD, Bool.not_true, Bool.not_false, decide_true, decide_false, beq_self_eq_true, true_and, and_true, Nat.reduceLeDiff, toDs, toDk, toDs_sh, ↓zS_ii, ↓zS_bi, ↓zS_bb, ↓zS_tt, ↓zS_ll, ↓zS_lt, ↓zS_lk, ↓zS_cut3, ↓zS_r3, ↓zS_r3D, ↓zS_nonI, ↓zS_nonN, ↓zS_ownO]
    exact mid _ ((mb_i (by cases q.2.2.2 <;> decide +kernel)).mono (by decide) (by decide))
theorem zS_isF {Q : D → Prop} : oIs true (.bl false) (.bl false) Q = Q (.bl false) := propext Iff.rfl
structure Th (d : D) : Prop where
  ok : rOk d
  ln : ∀ xs, d = .lst xs ∨ d = .tup xs → xs.length ≤ 100000
  rp : ∀ Q : D → Prop, Q (.str (rpy d).shown) → cReprN [d] Q
theorem th_of {d : D} (h : Mb 60 10000000 d) (ln : ∀ xs, d = .lst xs ∨ d = .tup xs → xs.length ≤ 100000) : Th d := by
  refine ⟨h.ok, ln, fun Q q => ?_⟩
  obtain ⟨ok, dp, wt⟩ := h
  have len := rpy_len d ok
  cases d with
  | lst xs =>
    rw [z_rpNl]
    rw [rOk] at ok
    rw [rpy] at dp len q
    exact ⟨⟨ok, by omega, by rw [sizeLine_eq]; omega⟩, q⟩
  | tup xs =>
    rw [z_rpNt]
    rw [rOk] at ok
    rw [rpy] at dp len q
    exact ⟨⟨ok, by omega, by rw [sizeLine_eq]; omega⟩, q⟩
  | dic ks =>
    rw [z_rpNd, z_rpAd]
    rw [rOk] at ok
    rw [rpy] at q
    exact ⟨ok, q⟩
  | int i =>
    rw [z_rpNi, z_rpAi]
    rw [rOk] at ok
    rw [rpy] at q
    exact ⟨⟨by unfold DL.plain; rw [ok]; rfl, by rw [D.wt]; omega⟩, q⟩
  | str x =>
    rw [z_rpNs, z_rpAs]
    rw [rOk] at ok
    rw [rpy] at q
    exact ⟨⟨by unfold DL.plain; rw [ok.1]; rfl, by have := ok.2; omega⟩, q⟩
  | bl b =>
    rw [z_rpNb, z_rpAb]
    rw [rpy] at q
    exact ⟨⟨by rfl, by rw [D.wt]; omega⟩, q⟩
  | non =>
    rw [z_rpNn, z_rpAn]
    rw [rpy] at q
    exact ⟨⟨by rfl, by rw [D.wt]; omega⟩, q⟩
  | obj _ _ => rw [rOk] at ok; exact ok.elim
  | ktup _ => rw [rOk] at ok; exact ok.elim
  | bag => rw [rOk] at ok; exact ok.elim
theorem th_seq {xs : List D} (h : ∀ x ∈ xs, Mb 5 150000 x) (hl : xs.length ≤ 12) : Th (.lst xs) ∧ Th (.tup xs) := by
  constructor
  · refine th_of ((mb_lst 12 h hl).mono (by decide) (by decide)) fun ys e => ?_
    rcases e with e | e
    · cases e; omega
    · cases e
  · refine th_of ((mb_tup 12 h hl).mono (by decide) (by decide)) fun ys e => ?_
    rcases e with e | e
    · cases e
    · cases e; omega
theorem th_od {d : D} (h : Od d) : Th d := th_of (h.mb.mono (by decide) (by decide)) fun xs e => by have := h.ln xs e; omega
theorem th_od1 {d : D} (h : Od d) : Th (.lst [d]) := (th_seq (xs := [d]) (fun x hx => by rw [List.mem_singleton.mp hx]; exact h.mb.mono (by decide) (by decide)) (by simp)).1
theorem th_ps {u : List Pc} (h : Okl u) (hl : u.length ≤ 12) : Th (.tup [lD u]) := (th_seq (xs := [lD u]) (fun x hx => by
  rw [List.mem_singleton.mp hx]
  refine (mb_lst (k := 2) (m := 10000) 12 (fun y hy => ?_) (by rw [List.length_map]; exact hl)).mono (by decide) (by decide)
  obtain ⟨p, hp, rfl⟩ := List.mem_map.mp hy
  exact mb_pc (h p hp)) (by simp)).2
theorem alike_t {xs : List D} {Q : D → Prop} (hp : DL.plain (.tup xs) = true) (hw : (D.tup xs).wt ≤ 16000000) (hq : Q (.bl true)) : S__law_alike [.tup xs, .tup xs] Q := by
  have e1 : ∀ Q : D → Prop, oEq (.tup xs) (.tup xs) Q = ((DL.plain (.tup xs) = true ∧ DL.plain (.tup xs) = true) ∧ Q (.bl (eqb (.tup xs) (.tup xs)))) := fun Q => propext Iff.rfl
  have e2 : ∀ Q : D → Prop, cRepr [.tup xs] Q = ((DL.plain (.tup xs) = true ∧ (D.tup xs).wt ≤ 16000000) ∧ Q (.str (D.tup xs).py.shown)) := fun Q => propext Iff.rfl
  refine ⟨rfl, ?_⟩
  simp only [t__law_alike, ↓zHd0, zHp0, ↓zGd0, ↓zGd1, ↓zGd2, ↓zGd3, ↓zGd4, zGp0, startD, ↓List.map_cons, ↓List.map_nil, ↓List.length_cons, ↓List.length_nil, Nat.reduceAdd, Nat.reduceSub, Nat.sub_self, List.replicate, ↓List.cons_append, ↓List.nil_append, List.append_nil, ↓List.getElem?_cons_zero, ↓List.getElem?_cons_succ, ↓List.set_cons_zero, ↓List.set_cons_succ, wipeD, Bool.not_true, Bool.not_false, decide_true, decide_false, beq_self_eq_true, true_and, and_true, Nat.reduceLeDiff, toDs, toDk, toDs_sh, ↓zS_ii, ↓zS_bi, ↓zS_bb, ↓zS_tt, ↓zS_ll, ↓zS_lt, ↓zS_lk, ↓zS_cut3, ↓zS_r3, ↓zS_r3D, ↓zS_nonI, ↓zS_nonN, ↓zS_ownO, ↓zS_isF]
  refine ⟨⟨hp, hp⟩, ?_⟩
  rw [eqb_refl (Bool.and_eq_true_iff.mp hp).1]
  try simp only [↓zHd0, zHp0, ↓zGd0, ↓zGd1, ↓zGd2, ↓zGd3, ↓zGd4, zGp0, startD, ↓List.map_cons, ↓List.map_nil, ↓List.length_cons, ↓List.length_nil, Nat.reduceAdd, Nat.reduceSub, Nat.sub_self, List.replicate, ↓List.cons_append, ↓List.nil_append, List.append_nil, ↓List.getElem?_cons_zero, ↓List.getElem?_cons_succ, ↓List.set_cons_zero, ↓List.set_cons_succ, wipeD, Bool.not_true, Bool.not_false, decide_true, decide_false, beq_self_eq_true, true_and, and_true, Nat.reduceLeDiff, toDs, toDk, toDs_sh, ↓zS_ii, ↓zS_bi, ↓zS_bb, ↓zS_tt, ↓zS_ll, ↓zS_lt, ↓zS_lk, ↓zS_cut3, ↓zS_r3, ↓zS_r3D, ↓zS_nonI, ↓zS_nonN, ↓zS_ownO, ↓zS_isF]
  rw [e2]
  refine ⟨⟨hp, hw⟩, ?_⟩
  rw [e2]
  refine ⟨⟨hp, hw⟩, ?_⟩
  try simp only [↓zHd0, zHp0, ↓zGd0, ↓zGd1, ↓zGd2, ↓zGd3, ↓zGd4, zGp0, startD, ↓List.map_cons, ↓List.map_nil, ↓List.length_cons, ↓List.length_nil, Nat.reduceAdd, Nat.reduceSub, Nat.sub_self, List.replicate, ↓List.cons_append, ↓List.nil_append, List.append_nil, ↓List.getElem?_cons_zero, ↓List.getElem?_cons_succ, ↓List.set_cons_zero, ↓List.set_cons_succ, wipeD, Bool.not_true, Bool.not_false, decide_true, decide_false, beq_self_eq_true, true_and, and_true, Nat.reduceLeDiff, toDs, toDk, toDs_sh, ↓zS_ii, ↓zS_bi, ↓zS_bb, ↓zS_tt, ↓zS_ll, ↓zS_lt, ↓zS_lk, ↓zS_cut3, ↓zS_r3, ↓zS_r3D, ↓zS_nonI, ↓zS_nonN, ↓zS_ownO, ↓zS_isF]
  try rw [decide_eq_true rfl]
  exact hq
theorem alike_said {b : Bool} {Q : D → Prop} (hq : Q (.bl true)) : S__law_alike [saidD b, saidD b] Q := by
  cases b with
  | true => exact alike_t (by decide +kernel) (by decide +kernel) hq
  | false => exact alike_t (by decide +kernel) (by decide +kernel) hq
theorem alike_bl {b : Bool} {Q : D → Prop} (hq : Q (.bl true)) : S__law_alike [.bl b, .bl b] Q := by
  have e2 : ∀ Q : D → Prop, cRepr [.bl b] Q = ((DL.plain (.bl b) = true ∧ (D.bl b).wt ≤ 16000000) ∧ Q (.str (D.bl b).py.shown)) := fun Q => propext Iff.rfl
  have hp : DL.plain (.bl b) = true ∧ (D.bl b).wt ≤ 16000000 := by cases b <;> exact ⟨by decide +kernel, by decide +kernel⟩
  refine ⟨rfl, ?_⟩
  simp only [t__law_alike, ↓zHd0, zHp0, ↓zGd0, ↓zGd1, ↓zGd2, ↓zGd3, ↓zGd4, zGp0, startD, ↓List.map_cons, ↓List.map_nil, ↓List.length_cons, ↓List.length_nil, Nat.reduceAdd, Nat.reduceSub, Nat.sub_self, List.replicate, ↓List.cons_append, ↓List.nil_append, List.append_nil, ↓List.getElem?_cons_zero, ↓List.getElem?_cons_succ, ↓List.set_cons_zero, ↓List.set_cons_succ, wipeD, Bool.not_true, Bool.not_false, decide_true, decide_false, beq_self_eq_true, true_and, and_true, Nat.reduceLeDiff, toDs, toDk, toDs_sh, ↓zS_ii, ↓zS_bi, ↓zS_bb, ↓zS_tt, ↓zS_ll, ↓zS_lt, ↓zS_lk, ↓zS_cut3, ↓zS_r3, ↓zS_r3D, ↓zS_nonI, ↓zS_nonN, ↓zS_ownO, ↓zS_isF]
  rw [e2]
  refine ⟨hp, ?_⟩
  rw [e2]
  refine ⟨hp, ?_⟩
  try simp only [↓zHd0, zHp0, ↓zGd0, ↓zGd1, ↓zGd2, ↓zGd3, ↓zGd4, zGp0, startD, ↓List.map_cons, ↓List.map_nil, ↓List.length_cons, ↓List.length_nil, Nat.reduceAdd, Nat.reduceSub, Nat.sub_self, List.replicate, ↓List.cons_append, ↓List.nil_append, List.append_nil, ↓List.getElem?_cons_zero, ↓List.getElem?_cons_succ, ↓List.set_cons_zero, ↓List.set_cons_succ, wipeD, Bool.not_true, Bool.not_false, decide_true, decide_false, beq_self_eq_true, true_and, and_true, Nat.reduceLeDiff, toDs, toDk, toDs_sh, ↓zS_ii, ↓zS_bi, ↓zS_bb, ↓zS_tt, ↓zS_ll, ↓zS_lt, ↓zS_lk, ↓zS_cut3, ↓zS_r3, ↓zS_r3D, ↓zS_nonI, ↓zS_nonN, ↓zS_ownO, ↓zS_isF]
  try rw [decide_eq_true rfl]
  exact hq
theorem are_o {B : List Pc} {Q : D → Prop} (hq : Q (.bl false)) : S_are_pieces [hpD B] Q := by
  refine ⟨rfl, ?_⟩
  unfold hpD
  simp only [t_are_pieces, ↓zHd0, zHp0, ↓zGd0, ↓zGd1, ↓zGd2, ↓zGd3, ↓zGd4, zGp0, startD, ↓List.map_cons, ↓List.map_nil, ↓List.length_cons, ↓List.length_nil, Nat.reduceAdd, Nat.reduceSub, Nat.sub_self, List.replicate, ↓List.cons_append, ↓List.nil_append, List.append_nil, ↓List.getElem?_cons_zero, ↓List.getElem?_cons_succ, ↓List.set_cons_zero, ↓List.set_cons_succ, wipeD, Bool.not_true, Bool.not_false, decide_true, decide_false, beq_self_eq_true, true_and, and_true, Nat.reduceLeDiff, toDs, toDk, toDs_sh, ↓zS_ii, ↓zS_bi, ↓zS_bb, ↓zS_tt, ↓zS_ll, ↓zS_lt, ↓zS_lk, ↓zS_cut3, ↓zS_r3, ↓zS_r3D, ↓zS_nonI, ↓zS_nonN, ↓zS_ownO, ↓zS_isF]
  refine ⟨by decide, ?_⟩
  exact hq
theorem heard_o {B : List Pc} {Q : D → Prop} (hq : Q (saidD false)) : S__law_heard [hpD B] Q := by
  refine ⟨rfl, ?_⟩
  show t__law_heard _ [some (.sh (hpD B)), none]
  simp only [t__law_heard, ↓zHd0, zHp0, ↓zGd0, ↓zGd1, ↓zGd2, ↓zGd3, ↓zGd4, zGp0, startD, ↓List.map_cons, ↓List.map_nil, ↓List.length_cons, ↓List.length_nil, Nat.reduceAdd, Nat.reduceSub, Nat.sub_self, List.replicate, ↓List.cons_append, ↓List.nil_append, List.append_nil, ↓List.getElem?_cons_zero, ↓List.getElem?_cons_succ, ↓List.set_cons_zero, ↓List.set_cons_succ, wipeD, Bool.not_true, Bool.not_false, decide_true, decide_false, beq_self_eq_true, true_and, and_true, Nat.reduceLeDiff, toDs, toDk, toDs_sh, ↓zS_ii, ↓zS_bi, ↓zS_bb, ↓zS_tt, ↓zS_ll, ↓zS_lt, ↓zS_lk, ↓zS_cut3, ↓zS_r3, ↓zS_r3D, ↓zS_nonI, ↓zS_nonN, ↓zS_ownO, ↓zS_isF]
  refine ⟨rfl, fun x => ?_⟩
  show tx_Heap___init__ _ _ [some (.nw x 5 []), some (.sh (hpD B))]
  simp only [tx_Heap___init__, ↓zHd0, zHp0, ↓zGd0, ↓zGd1, ↓zGd2, ↓zGd3, ↓zGd4, zGp0, startD, ↓List.map_cons, ↓List.map_nil, ↓List.length_cons, ↓List.length_nil, Nat.reduceAdd, Nat.reduceSub, Nat.sub_self, List.replicate, ↓List.cons_append, ↓List.nil_append, List.append_nil, ↓List.getElem?_cons_zero, ↓List.getElem?_cons_succ, ↓List.set_cons_zero, ↓List.set_cons_succ, wipeD, Bool.not_true, Bool.not_false, decide_true, decide_false, beq_self_eq_true, true_and, and_true, Nat.reduceLeDiff, toDs, toDk, toDs_sh, ↓zS_ii, ↓zS_bi, ↓zS_bb, ↓zS_tt, ↓zS_ll, ↓zS_lt, ↓zS_lk, ↓zS_cut3, ↓zS_r3, ↓zS_r3D, ↓zS_nonI, ↓zS_nonN, ↓zS_ownO, ↓zS_isF]
  refine are_o ?_
  simp only [notB_eq, ↓zHd0, zHp0, ↓zGd0, ↓zGd1, ↓zGd2, ↓zGd3, ↓zGd4, zGp0, startD, ↓List.map_cons, ↓List.map_nil, ↓List.length_cons, ↓List.length_nil, Nat.reduceAdd, Nat.reduceSub, Nat.sub_self, List.replicate, ↓List.cons_append, ↓List.nil_append, List.append_nil, ↓List.getElem?_cons_zero, ↓List.getElem?_cons_succ, ↓List.set_cons_zero, ↓List.set_cons_succ, wipeD, Bool.not_true, Bool.not_false, decide_true, decide_false, beq_self_eq_true, true_and, and_true, Nat.reduceLeDiff, toDs, toDk, toDs_sh, ↓zS_ii, ↓zS_bi, ↓zS_bb, ↓zS_tt, ↓zS_ll, ↓zS_lt, ↓zS_lk, ↓zS_cut3, ↓zS_r3, ↓zS_r3D, ↓zS_nonI, ↓zS_nonN, ↓zS_ownO, ↓zS_isF]
  exact ⟨_, rfl, hq⟩
theorem sd_t : saidD true = .tup [.str (Str.ofString "made"), .bl true] := rfl
theorem sd_f : saidD false = .tup [.str (Str.ofString "wrong"), .int 0] := rfl
abbrev SL (o2 o3 o4 o5 o6 o7 o8 o9 o10 o11 o12 o13 o14 o15 o16 o17 : Option SD) : DS := [none, some (.sh .bag), o2, o3, o4, o5, o6, o7, o8, o9, o10, o11, o12, o13, o14, o15, o16, o17]
section
variable {W : DEnds} {A : List Pc} {d : D} {o2 o3 o4 o5 o6 o7 o8 o9 o10 o11 o12 o13 o14 o15 o16 o17 : Option SD}
theorem law_b1 (h : Th d) (hN : W.nx (SL o2 o3 o4 o5 (some (.sh d)) (some (.sh (saidD (arePc d)))) (some (.sh (.str (rpy d).shown))) o9 o10 o11 o12 o13 o14 o15 o16 o17)) :
    b_law_1 W (SL o2 o3 o4 o5 (some (.sh d)) (some (.sh (saidD (arePc d)))) (some (.sh (.str (rpy d).shown))) o9 o10 o11 o12 o13 o14 o15 o16 o17) := by
  simp only [b_law_1, ↓zHd0, zHp0, ↓zGd0, ↓zGd1, ↓zGd2, ↓zGd3, ↓zGd4, zGp0, startD, ↓List.map_cons, ↓List.map_nil, ↓List.length_cons, ↓List.length_nil, Nat.reduceAdd, Nat.reduceSub, Nat.sub_self, List.replicate, ↓List.cons_append, ↓List.nil_append, List.append_nil, ↓List.getElem?_cons_zero, ↓List.getElem?_cons_succ, ↓List.set_cons_zero, ↓List.set_cons_succ, wipeD, Bool.not_true, Bool.not_false, decide_true, decide_false, beq_self_eq_true, true_and, and_true, Nat.reduceLeDiff, toDs, toDk, toDs_sh, ↓zS_ii, ↓zS_bi, ↓zS_bb, ↓zS_tt, ↓zS_ll, ↓zS_lt, ↓zS_lk, ↓zS_cut3, ↓zS_r3, ↓zS_r3D, ↓zS_nonI, ↓zS_nonN, ↓zS_ownO, ↓zS_isF]
  refine heard_a h.ok h.ln (alike_said ?_)
  try simp only [↓zHd0, zHp0, ↓zGd0, ↓zGd1, ↓zGd2, ↓zGd3, ↓zGd4, zGp0, startD, ↓List.map_cons, ↓List.map_nil, ↓List.length_cons, ↓List.length_nil, Nat.reduceAdd, Nat.reduceSub, Nat.sub_self, List.replicate, ↓List.cons_append, ↓List.nil_append, List.append_nil, ↓List.getElem?_cons_zero, ↓List.getElem?_cons_succ, ↓List.set_cons_zero, ↓List.set_cons_succ, wipeD, Bool.not_true, Bool.not_false, decide_true, decide_false, beq_self_eq_true, true_and, and_true, Nat.reduceLeDiff, toDs, toDk, toDs_sh, ↓zS_ii, ↓zS_bi, ↓zS_bb, ↓zS_tt, ↓zS_ll, ↓zS_lt, ↓zS_lk, ↓zS_cut3, ↓zS_r3, ↓zS_r3D, ↓zS_nonI, ↓zS_nonN, ↓zS_ownO, ↓zS_isF]
  refine h.rp _ ?_
  try simp only [↓zHd0, zHp0, ↓zGd0, ↓zGd1, ↓zGd2, ↓zGd3, ↓zGd4, zGp0, startD, ↓List.map_cons, ↓List.map_nil, ↓List.length_cons, ↓List.length_nil, Nat.reduceAdd, Nat.reduceSub, Nat.sub_self, List.replicate, ↓List.cons_append, ↓List.nil_append, List.append_nil, ↓List.getElem?_cons_zero, ↓List.getElem?_cons_succ, ↓List.set_cons_zero, ↓List.set_cons_succ, wipeD, Bool.not_true, Bool.not_false, decide_true, decide_false, beq_self_eq_true, true_and, and_true, Nat.reduceLeDiff, toDs, toDk, toDs_sh, ↓zS_ii, ↓zS_bi, ↓zS_bb, ↓zS_tt, ↓zS_ll, ↓zS_lt, ↓zS_lk, ↓zS_cut3, ↓zS_r3, ↓zS_r3D, ↓zS_nonI, ↓zS_nonN, ↓zS_ownO, ↓zS_isF]
  try rw [decide_eq_true rfl]
  try simp only [↓zHd0, zHp0, ↓zGd0, ↓zGd1, ↓zGd2, ↓zGd3, ↓zGd4, zGp0, startD, ↓List.map_cons, ↓List.map_nil, ↓List.length_cons, ↓List.length_nil, Nat.reduceAdd, Nat.reduceSub, Nat.sub_self, List.replicate, ↓List.cons_append, ↓List.nil_append, List.append_nil, ↓List.getElem?_cons_zero, ↓List.getElem?_cons_succ, ↓List.set_cons_zero, ↓List.set_cons_succ, wipeD, Bool.not_true, Bool.not_false, decide_true, decide_false, beq_self_eq_true, true_and, and_true, Nat.reduceLeDiff, toDs, toDk, toDs_sh, ↓zS_ii, ↓zS_bi, ↓zS_bb, ↓zS_tt, ↓zS_ll, ↓zS_lt, ↓zS_lk, ↓zS_cut3, ↓zS_r3, ↓zS_r3D, ↓zS_nonI, ↓zS_nonN, ↓zS_ownO, ↓zS_isF]
  exact hN
theorem law_10 (h : Th d) (hN : W.nx (SL o2 o3 o4 (some (.sh (hpD A))) (some (.sh d)) (some (.sh (saidD (arePc d)))) (some (.sh (.str (rpy d).shown))) o9 o10 o11 o12 o13 o14 o15 o16 o17)) :
    law_at_10 W (SL o2 o3 o4 (some (.sh (hpD A))) (some (.sh d)) (some (.sh (saidD (arePc d)))) (some (.sh (.str (rpy d).shown))) o9 o10 o11 o12 o13 o14 o15 o16 o17) := by
  cases e : arePc d with
  | true =>
    rw [e, sd_t] at hN
    rw [sd_t]
    simp only [law_at_10, ↓zHd0, zHp0, ↓zGd0, ↓zGd1, ↓zGd2, ↓zGd3, ↓zGd4, zGp0, startD, ↓List.map_cons, ↓List.map_nil, ↓List.length_cons, ↓List.length_nil, Nat.reduceAdd, Nat.reduceSub, Nat.sub_self, List.replicate, ↓List.cons_append, ↓List.nil_append, List.append_nil, ↓List.getElem?_cons_zero, ↓List.getElem?_cons_succ, ↓List.set_cons_zero, ↓List.set_cons_succ, wipeD, Bool.not_true, Bool.not_false, decide_true, decide_false, beq_self_eq_true, true_and, and_true, Nat.reduceLeDiff, toDs, toDk, toDs_sh, ↓zS_ii, ↓zS_bi, ↓zS_bb, ↓zS_tt, ↓zS_ll, ↓zS_lt, ↓zS_lk, ↓zS_cut3, ↓zS_r3, ↓zS_r3D, ↓zS_nonI, ↓zS_nonN, ↓zS_ownO, ↓zS_isF]
    rw [decide_eq_false (show ¬ (Str.ofString "made" = Str.ofString "wrong") by decide +kernel)]
    try simp only [↓zHd0, zHp0, ↓zGd0, ↓zGd1, ↓zGd2, ↓zGd3, ↓zGd4, zGp0, startD, ↓List.map_cons, ↓List.map_nil, ↓List.length_cons, ↓List.length_nil, Nat.reduceAdd, Nat.reduceSub, Nat.sub_self, List.replicate, ↓List.cons_append, ↓List.nil_append, List.append_nil, ↓List.getElem?_cons_zero, ↓List.getElem?_cons_succ, ↓List.set_cons_zero, ↓List.set_cons_succ, wipeD, Bool.not_true, Bool.not_false, decide_true, decide_false, beq_self_eq_true, true_and, and_true, Nat.reduceLeDiff, toDs, toDk, toDs_sh, ↓zS_ii, ↓zS_bi, ↓zS_bb, ↓zS_tt, ↓zS_ll, ↓zS_lt, ↓zS_lk, ↓zS_cut3, ↓zS_r3, ↓zS_r3D, ↓zS_nonI, ↓zS_nonN, ↓zS_ownO, ↓zS_isF]
    refine h.rp _ ?_
    try simp only [↓zHd0, zHp0, ↓zGd0, ↓zGd1, ↓zGd2, ↓zGd3, ↓zGd4, zGp0, startD, ↓List.map_cons, ↓List.map_nil, ↓List.length_cons, ↓List.length_nil, Nat.reduceAdd, Nat.reduceSub, Nat.sub_self, List.replicate, ↓List.cons_append, ↓List.nil_append, List.append_nil, ↓List.getElem?_cons_zero, ↓List.getElem?_cons_succ, ↓List.set_cons_zero, ↓List.set_cons_succ, wipeD, Bool.not_true, Bool.not_false, decide_true, decide_false, beq_self_eq_true, true_and, and_true, Nat.reduceLeDiff, toDs, toDk, toDs_sh, ↓zS_ii, ↓zS_bi, ↓zS_bb, ↓zS_tt, ↓zS_ll, ↓zS_lt, ↓zS_lk, ↓zS_cut3, ↓zS_r3, ↓zS_r3D, ↓zS_nonI, ↓zS_nonN, ↓zS_ownO, ↓zS_isF]
    try rw [decide_eq_true rfl]
    try simp only [↓zHd0, zHp0, ↓zGd0, ↓zGd1, ↓zGd2, ↓zGd3, ↓zGd4, zGp0, startD, ↓List.map_cons, ↓List.map_nil, ↓List.length_cons, ↓List.length_nil, Nat.reduceAdd, Nat.reduceSub, Nat.sub_self, List.replicate, ↓List.cons_append, ↓List.nil_append, List.append_nil, ↓List.getElem?_cons_zero, ↓List.getElem?_cons_succ, ↓List.set_cons_zero, ↓List.set_cons_succ, wipeD, Bool.not_true, Bool.not_false, decide_true, decide_false, beq_self_eq_true, true_and, and_true, Nat.reduceLeDiff, toDs, toDk, toDs_sh, ↓zS_ii, ↓zS_bi, ↓zS_bb, ↓zS_tt, ↓zS_ll, ↓zS_lt, ↓zS_lk, ↓zS_cut3, ↓zS_r3, ↓zS_r3D, ↓zS_nonI, ↓zS_nonN, ↓zS_ownO, ↓zS_isF]
    exact hN
  | false =>
    rw [e, sd_f] at hN
    rw [sd_f]
    simp only [law_at_10, ↓zHd0, zHp0, ↓zGd0, ↓zGd1, ↓zGd2, ↓zGd3, ↓zGd4, zGp0, startD, ↓List.map_cons, ↓List.map_nil, ↓List.length_cons, ↓List.length_nil, Nat.reduceAdd, Nat.reduceSub, Nat.sub_self, List.replicate, ↓List.cons_append, ↓List.nil_append, List.append_nil, ↓List.getElem?_cons_zero, ↓List.getElem?_cons_succ, ↓List.set_cons_zero, ↓List.set_cons_succ, wipeD, Bool.not_true, Bool.not_false, decide_true, decide_false, beq_self_eq_true, true_and, and_true, Nat.reduceLeDiff, toDs, toDk, toDs_sh, ↓zS_ii, ↓zS_bi, ↓zS_bb, ↓zS_tt, ↓zS_ll, ↓zS_lt, ↓zS_lk, ↓zS_cut3, ↓zS_r3, ↓zS_r3D, ↓zS_nonI, ↓zS_nonN, ↓zS_ownO, ↓zS_isF]
    refine ⟨by rfl, ord_n h.ok h.ln (.inl e) ?_⟩
    try simp only [↓zHd0, zHp0, ↓zGd0, ↓zGd1, ↓zGd2, ↓zGd3, ↓zGd4, zGp0, startD, ↓List.map_cons, ↓List.map_nil, ↓List.length_cons, ↓List.length_nil, Nat.reduceAdd, Nat.reduceSub, Nat.sub_self, List.replicate, ↓List.cons_append, ↓List.nil_append, List.append_nil, ↓List.getElem?_cons_zero, ↓List.getElem?_cons_succ, ↓List.set_cons_zero, ↓List.set_cons_succ, wipeD, Bool.not_true, Bool.not_false, decide_true, decide_false, beq_self_eq_true, true_and, and_true, Nat.reduceLeDiff, toDs, toDk, toDs_sh, ↓zS_ii, ↓zS_bi, ↓zS_bb, ↓zS_tt, ↓zS_ll, ↓zS_lt, ↓zS_lk, ↓zS_cut3, ↓zS_r3, ↓zS_r3D, ↓zS_nonI, ↓zS_nonN, ↓zS_ownO, ↓zS_isF]
    refine h.rp _ ?_
    try simp only [↓zHd0, zHp0, ↓zGd0, ↓zGd1, ↓zGd2, ↓zGd3, ↓zGd4, zGp0, startD, ↓List.map_cons, ↓List.map_nil, ↓List.length_cons, ↓List.length_nil, Nat.reduceAdd, Nat.reduceSub, Nat.sub_self, List.replicate, ↓List.cons_append, ↓List.nil_append, List.append_nil, ↓List.getElem?_cons_zero, ↓List.getElem?_cons_succ, ↓List.set_cons_zero, ↓List.set_cons_succ, wipeD, Bool.not_true, Bool.not_false, decide_true, decide_false, beq_self_eq_true, true_and, and_true, Nat.reduceLeDiff, toDs, toDk, toDs_sh, ↓zS_ii, ↓zS_bi, ↓zS_bb, ↓zS_tt, ↓zS_ll, ↓zS_lt, ↓zS_lk, ↓zS_cut3, ↓zS_r3, ↓zS_r3D, ↓zS_nonI, ↓zS_nonN, ↓zS_ownO, ↓zS_isF]
    try rw [decide_eq_true rfl]
    try simp only [↓zHd0, zHp0, ↓zGd0, ↓zGd1, ↓zGd2, ↓zGd3, ↓zGd4, zGp0, startD, ↓List.map_cons, ↓List.map_nil, ↓List.length_cons, ↓List.length_nil, Nat.reduceAdd, Nat.reduceSub, Nat.sub_self, List.replicate, ↓List.cons_append, ↓List.nil_append, List.append_nil, ↓List.getElem?_cons_zero, ↓List.getElem?_cons_succ, ↓List.set_cons_zero, ↓List.set_cons_succ, wipeD, Bool.not_true, Bool.not_false, decide_true, decide_false, beq_self_eq_true, true_and, and_true, Nat.reduceLeDiff, toDs, toDk, toDs_sh, ↓zS_ii, ↓zS_bi, ↓zS_bb, ↓zS_tt, ↓zS_ll, ↓zS_lt, ↓zS_lk, ↓zS_cut3, ↓zS_r3, ↓zS_r3D, ↓zS_nonI, ↓zS_nonN, ↓zS_ownO, ↓zS_isF]
    exact hN
end
theorem rok_s {x : Str} (h1 : D.fine (.str x) = true) (h2 : x.length ≤ 1000) : rOk (.str x) := by
  rw [rOk]
  refine ⟨h1, ?_⟩
  rw [D.wt]
  omega
theorem rok_i {i : Int} (h : (D.int i).fine = true) : rOk (.int i) := by rw [rOk]; exact h
section
variable {W : DEnds} {A : List Pc} {d : D} {o2 o3 o4 o5 o6 o7 o8 o9 o10 o11 o12 o13 o14 o15 o16 o17 : Option SD}
theorem law_b2 (h : Th d) (hN : ∀ o7 o8 o9, W.nx (SL o2 o3 o4 (some (.sh (hpD A))) (some (.sh d)) o7 o8 o9 o10 o11 o12 o13 o14 o15 o16 o17)) :
    b_law_2 W (SL o2 o3 o4 (some (.sh (hpD A))) (some (.sh d)) o7 o8 o9 o10 o11 o12 o13 o14 o15 o16 o17) := by
  have key : law_at_7 W (SL o2 o3 o4 (some (.sh (hpD A))) (some (.sh d)) (some (.sh (saidD (arePc d)))) (some (.sh (.str (rpy d).shown))) o9 o10 o11 o12 o13 o14 o15 o16 o17) := by
    simp only [law_at_7, ↓zHd0, zHp0, ↓zGd0, ↓zGd1, ↓zGd2, ↓zGd3, ↓zGd4, zGp0, startD, ↓List.map_cons, ↓List.map_nil, ↓List.length_cons, ↓List.length_nil, Nat.reduceAdd, Nat.reduceSub, Nat.sub_self, List.replicate, ↓List.cons_append, ↓List.nil_append, List.append_nil, ↓List.getElem?_cons_zero, ↓List.getElem?_cons_succ, ↓List.set_cons_zero, ↓List.set_cons_succ, wipeD, Bool.not_true, Bool.not_false, decide_true, decide_false, beq_self_eq_true, true_and, and_true, Nat.reduceLeDiff, toDs, toDk, toDs_sh, ↓zS_ii, ↓zS_bi, ↓zS_bb, ↓zS_tt, ↓zS_ll, ↓zS_lt, ↓zS_lk, ↓zS_cut3, ↓zS_r3, ↓zS_r3D, ↓zS_nonI, ↓zS_nonN, ↓zS_ownO, ↓zS_isF]
    refine ⟨by decide, ?_⟩
    rw [show Int.toNat 2 = 2 from rfl, ups_succ, forD_c]
    show b_law_1 _ (SL o2 o3 o4 (some (.sh (hpD A))) (some (.sh d)) (some (.sh (saidD (arePc d)))) (some (.sh (.str (rpy d).shown))) (some (.sh (.int 0))) o10 o11 o12 o13 o14 o15 o16 o17)
    refine law_b1 h ?_
    rw [ups_succ]
    dsimp only
    rw [forD_c]
    show b_law_1 _ (SL o2 o3 o4 (some (.sh (hpD A))) (some (.sh d)) (some (.sh (saidD (arePc d)))) (some (.sh (.str (rpy d).shown))) (some (.sh (.int (0 + 1)))) o10 o11 o12 o13 o14 o15 o16 o17)
    refine law_b1 h ?_
    dsimp only
    rw [ups_zero, forD_n]
    exact law_10 h (hN _ _ _)
  simp only [b_law_2, ↓zHd0, zHp0, ↓zGd0, ↓zGd1, ↓zGd2, ↓zGd3, ↓zGd4, zGp0, startD, ↓List.map_cons, ↓List.map_nil, ↓List.length_cons, ↓List.length_nil, Nat.reduceAdd, Nat.reduceSub, Nat.sub_self, List.replicate, ↓List.cons_append, ↓List.nil_append, List.append_nil, ↓List.getElem?_cons_zero, ↓List.getElem?_cons_succ, ↓List.set_cons_zero, ↓List.set_cons_succ, wipeD, Bool.not_true, Bool.not_false, decide_true, decide_false, beq_self_eq_true, true_and, and_true, Nat.reduceLeDiff, toDs, toDk, toDs_sh, ↓zS_ii, ↓zS_bi, ↓zS_bb, ↓zS_tt, ↓zS_ll, ↓zS_lt, ↓zS_lk, ↓zS_cut3, ↓zS_r3, ↓zS_r3D, ↓zS_nonI, ↓zS_nonN, ↓zS_ownO, ↓zS_isF]
  refine lare_a h.ok h.ln ?_
  cases e : arePc d with
  | true =>
    rw [e] at key
    try simp only [↓zHd0, zHp0, ↓zGd0, ↓zGd1, ↓zGd2, ↓zGd3, ↓zGd4, zGp0, startD, ↓List.map_cons, ↓List.map_nil, ↓List.length_cons, ↓List.length_nil, Nat.reduceAdd, Nat.reduceSub, Nat.sub_self, List.replicate, ↓List.cons_append, ↓List.nil_append, List.append_nil, ↓List.getElem?_cons_zero, ↓List.getElem?_cons_succ, ↓List.set_cons_zero, ↓List.set_cons_succ, wipeD, Bool.not_true, Bool.not_false, decide_true, decide_false, beq_self_eq_true, true_and, and_true, Nat.reduceLeDiff, toDs, toDk, toDs_sh, ↓zS_ii, ↓zS_bi, ↓zS_bb, ↓zS_tt, ↓zS_ll, ↓zS_lt, ↓zS_lk, ↓zS_cut3, ↓zS_r3, ↓zS_r3D, ↓zS_nonI, ↓zS_nonN, ↓zS_ownO, ↓zS_isF]
    exact h.rp _ key
  | false =>
    rw [e] at key
    try simp only [↓zHd0, zHp0, ↓zGd0, ↓zGd1, ↓zGd2, ↓zGd3, ↓zGd4, zGp0, startD, ↓List.map_cons, ↓List.map_nil, ↓List.length_cons, ↓List.length_nil, Nat.reduceAdd, Nat.reduceSub, Nat.sub_self, List.replicate, ↓List.cons_append, ↓List.nil_append, List.append_nil, ↓List.getElem?_cons_zero, ↓List.getElem?_cons_succ, ↓List.set_cons_zero, ↓List.set_cons_succ, wipeD, Bool.not_true, Bool.not_false, decide_true, decide_false, beq_self_eq_true, true_and, and_true, Nat.reduceLeDiff, toDs, toDk, toDs_sh, ↓zS_ii, ↓zS_bi, ↓zS_bb, ↓zS_tt, ↓zS_ll, ↓zS_lt, ↓zS_lk, ↓zS_cut3, ↓zS_r3, ↓zS_r3D, ↓zS_nonI, ↓zS_nonN, ↓zS_ownO, ↓zS_isF]
    exact h.rp _ key
end
section
variable {W : DEnds} {A : List Pc} {d : D} {o2 o3 o4 o5 o6 o7 o8 o9 o10 o11 o12 o13 o14 o15 o16 o17 : Option SD}
def oddB (d : D) (A : List Pc) : Bool := match d with
  | .lst xs => xs.isEmpty && decide (A = [])
  | _ => false
theorem law_13 (h : Od d) (ha : Okl A) (hl : A.length ≤ 100000) (hN : law_at_15 W (SL o2 o3 (some (.sh d)) (some (.sh (hpD A))) o6 o7 o8 o9 (some (.sh (.bl (oddB d A)))) o11 o12 o13 o14 o15 o16 o17)) :
    law_at_13 W (SL o2 o3 (some (.sh d)) (some (.sh (hpD A))) o6 o7 o8 o9 (some (.sh (.bl (oddB d A)))) o11 o12 o13 o14 o15 o16 o17) := by
  simp only [law_at_13, ↓zHd0, zHp0, ↓zGd0, ↓zGd1, ↓zGd2, ↓zGd3, ↓zGd4, zGp0, startD, ↓List.map_cons, ↓List.map_nil, ↓List.length_cons, ↓List.length_nil, Nat.reduceAdd, Nat.reduceSub, Nat.sub_self, List.replicate, ↓List.cons_append, ↓List.nil_append, List.append_nil, ↓List.getElem?_cons_zero, ↓List.getElem?_cons_succ, ↓List.set_cons_zero, ↓List.set_cons_succ, wipeD, Bool.not_true, Bool.not_false, decide_true, decide_false, beq_self_eq_true, true_and, and_true, Nat.reduceLeDiff, toDs, toDk, toDs_sh, ↓zS_ii, ↓zS_bi, ↓zS_bb, ↓zS_tt, ↓zS_ll, ↓zS_lt, ↓zS_lk, ↓zS_cut3, ↓zS_r3, ↓zS_r3D, ↓zS_nonI, ↓zS_nonN, ↓zS_ownO, ↓zS_isF]
  refine ⟨by rfl, con_n h.ok h.np ?_⟩
  try simp only [↓zHd0, zHp0, ↓zGd0, ↓zGd1, ↓zGd2, ↓zGd3, ↓zGd4, zGp0, startD, ↓List.map_cons, ↓List.map_nil, ↓List.length_cons, ↓List.length_nil, Nat.reduceAdd, Nat.reduceSub, Nat.sub_self, List.replicate, ↓List.cons_append, ↓List.nil_append, List.append_nil, ↓List.getElem?_cons_zero, ↓List.getElem?_cons_succ, ↓List.set_cons_zero, ↓List.set_cons_succ, wipeD, Bool.not_true, Bool.not_false, decide_true, decide_false, beq_self_eq_true, true_and, and_true, Nat.reduceLeDiff, toDs, toDk, toDs_sh, ↓zS_ii, ↓zS_bi, ↓zS_bb, ↓zS_tt, ↓zS_ll, ↓zS_lt, ↓zS_lk, ↓zS_cut3, ↓zS_r3, ↓zS_r3D, ↓zS_nonI, ↓zS_nonN, ↓zS_ownO, ↓zS_isF]
  refine ⟨by rfl, ?_⟩
  · by_cases e : d = .lst []
    · subst e
      refine ord_e ha hl ?_
      refine alike_bl ?_
      try simp only [↓zHd0, zHp0, ↓zGd0, ↓zGd1, ↓zGd2, ↓zGd3, ↓zGd4, zGp0, startD, ↓List.map_cons, ↓List.map_nil, ↓List.length_cons, ↓List.length_nil, Nat.reduceAdd, Nat.reduceSub, Nat.sub_self, List.replicate, ↓List.cons_append, ↓List.nil_append, List.append_nil, ↓List.getElem?_cons_zero, ↓List.getElem?_cons_succ, ↓List.set_cons_zero, ↓List.set_cons_succ, wipeD, Bool.not_true, Bool.not_false, decide_true, decide_false, beq_self_eq_true, true_and, and_true, Nat.reduceLeDiff, toDs, toDk, toDs_sh, ↓zS_ii, ↓zS_bi, ↓zS_bb, ↓zS_tt, ↓zS_ll, ↓zS_lt, ↓zS_lk, ↓zS_cut3, ↓zS_r3, ↓zS_r3D, ↓zS_nonI, ↓zS_nonN, ↓zS_ownO, ↓zS_isF]
      exact hN
    · have f : oddB d A = false := by
        cases d with
        | lst xs =>
          cases xs with
          | nil => exact absurd rfl e
          | cons x xs => rfl
        | _ => rfl
      rw [f] at hN ⊢
      refine ord_n h.ok (fun xs z => by have := h.ln xs z; omega) ?_ ?_
      · by_cases g : ∃ xs, d = .lst xs
        · obtain ⟨xs, rfl⟩ := g
          refine .inl (Bool.eq_false_iff.mpr fun z => ?_)
          rcases h.ar z with z | z
          · exact e z
          · cases z
        · exact .inr fun xs z => g ⟨xs, z⟩
      · refine alike_bl ?_
        try simp only [↓zHd0, zHp0, ↓zGd0, ↓zGd1, ↓zGd2, ↓zGd3, ↓zGd4, zGp0, startD, ↓List.map_cons, ↓List.map_nil, ↓List.length_cons, ↓List.length_nil, Nat.reduceAdd, Nat.reduceSub, Nat.sub_self, List.replicate, ↓List.cons_append, ↓List.nil_append, List.append_nil, ↓List.getElem?_cons_zero, ↓List.getElem?_cons_succ, ↓List.set_cons_zero, ↓List.set_cons_succ, wipeD, Bool.not_true, Bool.not_false, decide_true, decide_false, beq_self_eq_true, true_and, and_true, Nat.reduceLeDiff, toDs, toDk, toDs_sh, ↓zS_ii, ↓zS_bi, ↓zS_bb, ↓zS_tt, ↓zS_ll, ↓zS_lt, ↓zS_lk, ↓zS_cut3, ↓zS_r3, ↓zS_r3D, ↓zS_nonI, ↓zS_nonN, ↓zS_ownO, ↓zS_isF]
        exact hN
theorem law_12 (h : Od d) (ha : Okl A) (hl : A.length ≤ 100000) (hN : ∀ o10, law_at_15 W (SL o2 o3 (some (.sh d)) (some (.sh (hpD A))) o6 o7 o8 o9 o10 o11 o12 o13 o14 o15 o16 o17)) :
    law_at_12 W (SL o2 o3 (some (.sh d)) (some (.sh (hpD A))) o6 o7 o8 o9 o10 o11 o12 o13 o14 o15 o16 o17) := by
  have key := law_13 (o6 := o6) (o7 := o7) (o8 := o8) (o9 := o9) h ha hl (hN _)
  simp only [law_at_12, ↓zHd0, zHp0, ↓zGd0, ↓zGd1, ↓zGd2, ↓zGd3, ↓zGd4, zGp0, startD, ↓List.map_cons, ↓List.map_nil, ↓List.length_cons, ↓List.length_nil, Nat.reduceAdd, Nat.reduceSub, Nat.sub_self, List.replicate, ↓List.cons_append, ↓List.nil_append, List.append_nil, ↓List.getElem?_cons_zero, ↓List.getElem?_cons_succ, ↓List.set_cons_zero, ↓List.set_cons_succ, wipeD, Bool.not_true, Bool.not_false, decide_true, decide_false, beq_self_eq_true, true_and, and_true, Nat.reduceLeDiff, toDs, toDk, toDs_sh, ↓zS_ii, ↓zS_bi, ↓zS_bb, ↓zS_tt, ↓zS_ll, ↓zS_lt, ↓zS_lk, ↓zS_cut3, ↓zS_r3, ↓zS_r3D, ↓zS_nonI, ↓zS_nonN, ↓zS_ownO, ↓zS_isF]
  refine isA h.ok ?_
  by_cases g : ∃ xs, d = .lst xs
  · obtain ⟨xs, rfl⟩ := g
    rw [isl_l]
    try simp only [↓zHd0, zHp0, ↓zGd0, ↓zGd1, ↓zGd2, ↓zGd3, ↓zGd4, zGp0, startD, ↓List.map_cons, ↓List.map_nil, ↓List.length_cons, ↓List.length_nil, Nat.reduceAdd, Nat.reduceSub, Nat.sub_self, List.replicate, ↓List.cons_append, ↓List.nil_append, List.append_nil, ↓List.getElem?_cons_zero, ↓List.getElem?_cons_succ, ↓List.set_cons_zero, ↓List.set_cons_succ, wipeD, Bool.not_true, Bool.not_false, decide_true, decide_false, beq_self_eq_true, true_and, and_true, Nat.reduceLeDiff, toDs, toDk, toDs_sh, ↓zS_ii, ↓zS_bi, ↓zS_bb, ↓zS_tt, ↓zS_ll, ↓zS_lt, ↓zS_lk, ↓zS_cut3, ↓zS_r3, ↓zS_r3D, ↓zS_nonI, ↓zS_nonN, ↓zS_ownO, ↓zS_isF]
    refine eqE_of ?_
    cases e : xs.isEmpty with
    | false =>
      try simp only [↓zHd0, zHp0, ↓zGd0, ↓zGd1, ↓zGd2, ↓zGd3, ↓zGd4, zGp0, startD, ↓List.map_cons, ↓List.map_nil, ↓List.length_cons, ↓List.length_nil, Nat.reduceAdd, Nat.reduceSub, Nat.sub_self, List.replicate, ↓List.cons_append, ↓List.nil_append, List.append_nil, ↓List.getElem?_cons_zero, ↓List.getElem?_cons_succ, ↓List.set_cons_zero, ↓List.set_cons_succ, wipeD, Bool.not_true, Bool.not_false, decide_true, decide_false, beq_self_eq_true, true_and, and_true, Nat.reduceLeDiff, toDs, toDk, toDs_sh, ↓zS_ii, ↓zS_bi, ↓zS_bb, ↓zS_tt, ↓zS_ll, ↓zS_lt, ↓zS_lk, ↓zS_cut3, ↓zS_r3, ↓zS_r3D, ↓zS_nonI, ↓zS_nonN, ↓zS_ownO, ↓zS_isF]
      have f : oddB (.lst xs) A = false := by show (xs.isEmpty && _) = false; rw [e]; rfl
      rw [f] at key
      exact key
    | true =>
      try simp only [↓zHd0, zHp0, ↓zGd0, ↓zGd1, ↓zGd2, ↓zGd3, ↓zGd4, zGp0, startD, ↓List.map_cons, ↓List.map_nil, ↓List.length_cons, ↓List.length_nil, Nat.reduceAdd, Nat.reduceSub, Nat.sub_self, List.replicate, ↓List.cons_append, ↓List.nil_append, List.append_nil, ↓List.getElem?_cons_zero, ↓List.getElem?_cons_succ, ↓List.set_cons_zero, ↓List.set_cons_succ, wipeD, Bool.not_true, Bool.not_false, decide_true, decide_false, beq_self_eq_true, true_and, and_true, Nat.reduceLeDiff, toDs, toDk, toDs_sh, ↓zS_ii, ↓zS_bi, ↓zS_bb, ↓zS_tt, ↓zS_ll, ↓zS_lt, ↓zS_lk, ↓zS_cut3, ↓zS_r3, ↓zS_r3D, ↓zS_nonI, ↓zS_nonN, ↓zS_ownO, ↓zS_isF]
      refine ⟨by rfl, hlen_ok (A := A) ?_⟩
      refine ⟨⟨by omega, by omega⟩, ?_⟩
      have f : oddB (.lst xs) A = decide ((A.length : Int) = 0) := by
        show (xs.isEmpty && decide (A = [])) = _
        rw [e, Bool.true_and]
        cases A with
        | nil => rfl
        | cons a A => rw [decide_eq_false (by simp), decide_eq_false (by rw [List.length_cons]; omega)]
      rw [f] at key
      try simp only [↓zHd0, zHp0, ↓zGd0, ↓zGd1, ↓zGd2, ↓zGd3, ↓zGd4, zGp0, startD, ↓List.map_cons, ↓List.map_nil, ↓List.length_cons, ↓List.length_nil, Nat.reduceAdd, Nat.reduceSub, Nat.sub_self, List.replicate, ↓List.cons_append, ↓List.nil_append, List.append_nil, ↓List.getElem?_cons_zero, ↓List.getElem?_cons_succ, ↓List.set_cons_zero, ↓List.set_cons_succ, wipeD, Bool.not_true, Bool.not_false, decide_true, decide_false, beq_self_eq_true, true_and, and_true, Nat.reduceLeDiff, toDs, toDk, toDs_sh, ↓zS_ii, ↓zS_bi, ↓zS_bb, ↓zS_tt, ↓zS_ll, ↓zS_lt, ↓zS_lk, ↓zS_cut3, ↓zS_r3, ↓zS_r3D, ↓zS_nonI, ↓zS_nonN, ↓zS_ownO, ↓zS_isF]
      exact key
  · rw [isl_n (fun xs z => g ⟨xs, z⟩) h.ok]
    try simp only [↓zHd0, zHp0, ↓zGd0, ↓zGd1, ↓zGd2, ↓zGd3, ↓zGd4, zGp0, startD, ↓List.map_cons, ↓List.map_nil, ↓List.length_cons, ↓List.length_nil, Nat.reduceAdd, Nat.reduceSub, Nat.sub_self, List.replicate, ↓List.cons_append, ↓List.nil_append, List.append_nil, ↓List.getElem?_cons_zero, ↓List.getElem?_cons_succ, ↓List.set_cons_zero, ↓List.set_cons_succ, wipeD, Bool.not_true, Bool.not_false, decide_true, decide_false, beq_self_eq_true, true_and, and_true, Nat.reduceLeDiff, toDs, toDk, toDs_sh, ↓zS_ii, ↓zS_bi, ↓zS_bb, ↓zS_tt, ↓zS_ll, ↓zS_lt, ↓zS_lk, ↓zS_cut3, ↓zS_r3, ↓zS_r3D, ↓zS_nonI, ↓zS_nonN, ↓zS_ownO, ↓zS_isF]
    have f : oddB d A = false := by
      cases d with
      | lst xs => exact absurd ⟨xs, rfl⟩ g
      | _ => rfl
    rw [f] at key
    exact key
end
section
variable {W : DEnds} {A : List Pc} {d : D} {o2 o3 o4 o5 o6 o7 o8 o9 o10 o11 o12 o13 o14 o15 o16 o17 : Option SD}
theorem law_b3 (h : rOk d) (c : isRib d = false) (hN : W.nx (SL o2 o3 o4 (some (.sh (hpD A))) (some (.sh d)) o7 o8 o9 o10 o11 o12 o13 o14 o15 o16 o17)) :
    b_law_3 W (SL o2 o3 o4 (some (.sh (hpD A))) (some (.sh d)) o7 o8 o9 o10 o11 o12 o13 o14 o15 o16 o17) := by
  simp only [b_law_3, ↓zHd0, zHp0, ↓zGd0, ↓zGd1, ↓zGd2, ↓zGd3, ↓zGd4, zGp0, startD, ↓List.map_cons, ↓List.map_nil, ↓List.length_cons, ↓List.length_nil, Nat.reduceAdd, Nat.reduceSub, Nat.sub_self, List.replicate, ↓List.cons_append, ↓List.nil_append, List.append_nil, ↓List.getElem?_cons_zero, ↓List.getElem?_cons_succ, ↓List.set_cons_zero, ↓List.set_cons_succ, wipeD, Bool.not_true, Bool.not_false, decide_true, decide_false, beq_self_eq_true, true_and, and_true, Nat.reduceLeDiff, toDs, toDk, toDs_sh, ↓zS_ii, ↓zS_bi, ↓zS_bb, ↓zS_tt, ↓zS_ll, ↓zS_lt, ↓zS_lk, ↓zS_cut3, ↓zS_r3, ↓zS_r3D, ↓zS_nonI, ↓zS_nonN, ↓zS_ownO, ↓zS_isF]
  refine ⟨by rfl, pof_n h c ?_⟩
  try simp only [↓zHd0, zHp0, ↓zGd0, ↓zGd1, ↓zGd2, ↓zGd3, ↓zGd4, zGp0, startD, ↓List.map_cons, ↓List.map_nil, ↓List.length_cons, ↓List.length_nil, Nat.reduceAdd, Nat.reduceSub, Nat.sub_self, List.replicate, ↓List.cons_append, ↓List.nil_append, List.append_nil, ↓List.getElem?_cons_zero, ↓List.getElem?_cons_succ, ↓List.set_cons_zero, ↓List.set_cons_succ, wipeD, Bool.not_true, Bool.not_false, decide_true, decide_false, beq_self_eq_true, true_and, and_true, Nat.reduceLeDiff, toDs, toDk, toDs_sh, ↓zS_ii, ↓zS_bi, ↓zS_bb, ↓zS_tt, ↓zS_ll, ↓zS_lt, ↓zS_lk, ↓zS_cut3, ↓zS_r3, ↓zS_r3D, ↓zS_nonI, ↓zS_nonN, ↓zS_ownO, ↓zS_isF]
  refine ⟨⟨by rfl, by rfl⟩, ?_⟩
  rw [show eqb (D.lst []) (D.lst []) = true from eqb_refl (by rfl)]
  try simp only [↓zHd0, zHp0, ↓zGd0, ↓zGd1, ↓zGd2, ↓zGd3, ↓zGd4, zGp0, startD, ↓List.map_cons, ↓List.map_nil, ↓List.length_cons, ↓List.length_nil, Nat.reduceAdd, Nat.reduceSub, Nat.sub_self, List.replicate, ↓List.cons_append, ↓List.nil_append, List.append_nil, ↓List.getElem?_cons_zero, ↓List.getElem?_cons_succ, ↓List.set_cons_zero, ↓List.set_cons_succ, wipeD, Bool.not_true, Bool.not_false, decide_true, decide_false, beq_self_eq_true, true_and, and_true, Nat.reduceLeDiff, toDs, toDk, toDs_sh, ↓zS_ii, ↓zS_bi, ↓zS_bb, ↓zS_tt, ↓zS_ll, ↓zS_lt, ↓zS_lk, ↓zS_cut3, ↓zS_r3, ↓zS_r3D, ↓zS_nonI, ↓zS_nonN, ↓zS_ownO, ↓zS_isF]
  exact hN
theorem law_l3 : ∀ (xs : List D), (∀ x ∈ xs, rOk x ∧ isRib x = false) → (∀ o6, W.nx (SL o2 o3 o4 (some (.sh (hpD A))) o6 o7 o8 o9 o10 o11 o12 o13 o14 o15 o16 o17)) → ∀ o6,
    forD (gN 6) b_law_3 W xs (SL o2 o3 o4 (some (.sh (hpD A))) o6 o7 o8 o9 o10 o11 o12 o13 o14 o15 o16 o17)
  | [], _, hN, o6 => by rw [forD_n]; exact hN o6
  | x :: xs, h, hN, o6 => by
    rw [forD_c]
    show b_law_3 _ (SL o2 o3 o4 (some (.sh (hpD A))) (some (.sh x)) o7 o8 o9 o10 o11 o12 o13 o14 o15 o16 o17)
    exact law_b3 (h x List.mem_cons_self).1 (h x List.mem_cons_self).2 (law_l3 xs (fun y hy => h y (List.mem_cons_of_mem _ hy)) hN _)
abbrev strL : List D := [.tup [.str (Str.ofString "sun"), .bl true], .tup [.str (Str.ofString "sun"), .int (-1)], .tup [.str (Str.ofString "Sun"), .int 0], .lst [.str (Str.ofString "sun"), .int 0], .tup [.str (Str.ofString "moon")], .tup [.str (Str.ofString "moon"), .int 0, .int 0], .non, .str (Str.ofString "sun")]
abbrev strM : List D := [.tup [.str (Str.ofString "sun"), .str (Str.ofString "0")], .int 5, .dic [], .lst [], .tup [.tup [.str (Str.ofString "sun")], .int 0]]
theorem str_ok : ∀ x ∈ strL ++ strM, rOk x ∧ isRib x = false := by
  have si : ∀ i : Int, (D.int i).fine = true → rOk (.int i) := fun i a => rok_i a
  have ss : ∀ x : Str, D.fine (.str x) = true → x.length ≤ 1000 → rOk (.str x) := fun x a b => rok_s a b
  have kb : rOk (.bl true) := by rw [rOk]; trivial
  have r1 : ∀ {a : D}, rOk a → rOkL [a] := fun a => by rw [rOkL, rOkL]; exact ⟨a, trivial⟩
  have r2 : ∀ {a b : D}, rOk a → rOk b → rOkL [a, b] := fun a b => by rw [rOkL, rOkL, rOkL]; exact ⟨a, b, trivial⟩
  have r3 : ∀ {a b c : D}, rOk a → rOk b → rOk c → rOkL [a, b, c] := fun a b c => by rw [rOkL, rOkL, rOkL, rOkL]; exact ⟨a, b, c, trivial⟩
  have t : ∀ xs, rOkL xs → rOk (.tup xs) := fun xs h => by rw [rOk]; exact h
  have ks : rOk (.str (Str.ofString "sun")) := ss _ (by decide +kernel) (by decide +kernel)
  have km : rOk (.str (Str.ofString "moon")) := ss _ (by decide +kernel) (by decide +kernel)
  have k0 : rOk (.int 0) := si _ (by decide +kernel)
  simp only [List.cons_append, List.nil_append, List.forall_mem_cons]
  refine ⟨⟨t _ (r2 ks kb), by decide +kernel⟩, ⟨t _ (r2 ks (si _ (by decide +kernel))), by decide +kernel⟩, ⟨t _ (r2 (ss _ (by decide +kernel) (by decide +kernel)) k0), by decide +kernel⟩, ⟨by rw [rOk]; exact r2 ks k0, by decide +kernel⟩, ⟨t _ (r1 km), by decide +kernel⟩, ⟨t _ (r3 km k0 k0), by decide +kernel⟩, ⟨by rw [rOk]; trivial, by decide +kernel⟩, ⟨ks, by decide +kernel⟩,
    ⟨t _ (r2 ks (ss _ (by decide +kernel) (by decide +kernel))), by decide +kernel⟩, ⟨si _ (by decide +kernel), by decide +kernel⟩, ⟨by rw [rOk]; exact rep_n, by decide +kernel⟩, ⟨by rw [rOk, rOkL]; trivial, by decide +kernel⟩, ⟨t _ (r2 (t _ (r1 ks)) k0), by decide +kernel⟩, fun _ h => nomatch h⟩
theorem law_16 (hN : ∀ o6, law_at_19 W (SL o2 o3 o4 (some (.sh (hpD A))) o6 o7 o8 o9 o10 (some (.sh (.lst strL))) o12 o13 o14 o15 o16 o17)) :
    law_at_16 W (SL o2 o3 o4 (some (.sh (hpD A))) o6 o7 o8 o9 o10 (some (.sh (.lst strL))) o12 o13 o14 o15 o16 o17) := by
  simp only [law_at_16, ↓zHd0, zHp0, ↓zGd0, ↓zGd1, ↓zGd2, ↓zGd3, ↓zGd4, zGp0, startD, ↓List.map_cons, ↓List.map_nil, ↓List.length_cons, ↓List.length_nil, Nat.reduceAdd, Nat.reduceSub, Nat.sub_self, List.replicate, ↓List.cons_append, ↓List.nil_append, List.append_nil, ↓List.getElem?_cons_zero, ↓List.getElem?_cons_succ, ↓List.set_cons_zero, ↓List.set_cons_succ, wipeD, Bool.not_true, Bool.not_false, decide_true, decide_false, beq_self_eq_true, true_and, and_true, Nat.reduceLeDiff, toDs, toDk, toDs_sh, ↓zS_ii, ↓zS_bi, ↓zS_bb, ↓zS_tt, ↓zS_ll, ↓zS_lt, ↓zS_lk, ↓zS_cut3, ↓zS_r3, ↓zS_r3D, ↓zS_nonI, ↓zS_nonN, ↓zS_ownO, ↓zS_isF]
  refine ⟨by rw [sizeLine_eq]; decide, ?_⟩
  exact law_l3 (strL ++ strM) str_ok (fun o6 => hN o6) o6
theorem law_15 (hN : ∀ o6 o11, law_at_19 W (SL o2 o3 o4 (some (.sh (hpD A))) o6 o7 o8 o9 o10 o11 o12 o13 o14 o15 o16 o17)) :
    law_at_15 W (SL o2 o3 o4 (some (.sh (hpD A))) o6 o7 o8 o9 o10 o11 o12 o13 o14 o15 o16 o17) := by
  simp only [law_at_15, ↓zHd0, zHp0, ↓zGd0, ↓zGd1, ↓zGd2, ↓zGd3, ↓zGd4, zGp0, startD, ↓List.map_cons, ↓List.map_nil, ↓List.length_cons, ↓List.length_nil, Nat.reduceAdd, Nat.reduceSub, Nat.sub_self, List.replicate, ↓List.cons_append, ↓List.nil_append, List.append_nil, ↓List.getElem?_cons_zero, ↓List.getElem?_cons_succ, ↓List.set_cons_zero, ↓List.set_cons_succ, wipeD, Bool.not_true, Bool.not_false, decide_true, decide_false, beq_self_eq_true, true_and, and_true, Nat.reduceLeDiff, toDs, toDk, toDs_sh, ↓zS_ii, ↓zS_bi, ↓zS_bb, ↓zS_tt, ↓zS_ll, ↓zS_lt, ↓zS_lk, ↓zS_cut3, ↓zS_r3, ↓zS_r3D, ↓zS_nonI, ↓zS_nonN, ↓zS_ownO, ↓zS_isF]
  exact law_16 fun o6 => hN o6 _
end
section
variable {W : DEnds} {A : List Pc} {d : D} {o2 o3 o4 o5 o6 o7 o8 o9 o10 o11 o12 o13 o14 o15 o16 o17 : Option SD}
theorem filt_no {xs : List D} (h : ∀ x ∈ xs, isPc x = false) : xs.filter isPc = [] := by
  rw [List.filter_eq_nil_iff]
  intro x hx
  rw [h x hx]
  decide
theorem nearc {te : DE} {R : List D → Prop} {δ : DS} (hδ : ∀ y : D, δ.set 17 (some (.sh y)) = SL o2 o3 o4 (some (.sh (hpD A))) o6 o7 o8 o9 o10 o11 o12 o13 o14 o15 o16 (some (.sh y))) {xs : List D} (h : ∀ x ∈ xs, rOk x ∧ isPc x = false) (k : R []) :
    lcD (gN 17) (tBl (dOp (oInO false 5 S_Heap___contains__) (dVar 17) (dVar 5))) te δ R xs [] := by
  have e : xs = xs.map id := by rw [List.map_id]
  rw [e]
  refine lc_fofG (β := D) id (fun _ => D.int 1) (fun y => SL o2 o3 o4 (some (.sh (hpD A))) o6 o7 o8 o9 o10 o11 o12 o13 o14 o15 o16 (some (.sh y))) isPc xs [] (fun y _ F hF => ?_) (fun y hy R hR => ?_) (fun y hy c R hR => ?_) ?_
  · show F (δ.set 17 (some (.sh y)))
    rw [hδ]
    exact hF
  · simp only [↓zHd0, zHp0, ↓zGd0, ↓zGd1, ↓zGd2, ↓zGd3, ↓zGd4, zGp0, startD, ↓List.map_cons, ↓List.map_nil, ↓List.length_cons, ↓List.length_nil, Nat.reduceAdd, Nat.reduceSub, Nat.sub_self, List.replicate, ↓List.cons_append, ↓List.nil_append, List.append_nil, ↓List.getElem?_cons_zero, ↓List.getElem?_cons_succ, ↓List.set_cons_zero, ↓List.set_cons_succ, wipeD, Bool.not_true, Bool.not_false, decide_true, decide_false, beq_self_eq_true, true_and, and_true, Nat.reduceLeDiff, toDs, toDk, toDs_sh, ↓zS_ii, ↓zS_bi, ↓zS_bb, ↓zS_tt, ↓zS_ll, ↓zS_lt, ↓zS_lk, ↓zS_cut3, ↓zS_r3, ↓zS_r3D, ↓zS_nonI, ↓zS_nonN, ↓zS_ownO, ↓zS_isF]
    have z := (h y hy).2
    rw [z] at hR
    exact ⟨by rfl, con_n (h y hy).1 z hR⟩
  · rw [(h y hy).2] at c; cases c
  · rw [filt_no fun x hx => (h x hx).2]
    exact k
abbrev nearL (p : Pc) : List D := [.tup [.int p.1, .int p.2.1, .int (if p.2.2.1 = true then 1 else 0), .bl p.2.2.2], .lst [.int p.1, .int p.2.1, .bl p.2.2.1, .bl p.2.2.2], .tup [.int p.1, .int p.2.1, .bl p.2.2.1, .int (if p.2.2.2 = true then 1 else 0)], .tup [.bl (decide (p.1 = 1)), .int p.2.1, .bl p.2.2.1, .bl p.2.2.2]]
abbrev nearM (p : Pc) : List D := [.tup [.int p.1, .bl (decide (p.2.1 = 1)), .bl p.2.2.1, .bl p.2.2.2], .tup [.int p.1, .int p.2.1, .bl p.2.2.1, .bl p.2.2.2, .bl p.2.2.2]]
theorem near_ok {p : Pc} (h : Okp p) : ∀ x ∈ nearL p ++ nearM p, rOk x ∧ isPc x = false := by
  have i1 : rOk (.int p.1) := rok_i h.i1
  have i2 : rOk (.int p.2.1) := rok_i h.j1
  have kb : ∀ b : Bool, rOk (.bl b) := fun b => by rw [rOk]; trivial
  have kn : ∀ b : Bool, rOk (.int (if b = true then 1 else 0)) := fun b => rok_i (by cases b <;> decide +kernel)
  have t : ∀ xs, rOkL xs → rOk (.tup xs) := fun xs h => by rw [rOk]; exact h
  have r4 : ∀ {a b c d : D}, rOk a → rOk b → rOk c → rOk d → rOkL [a, b, c, d] := fun a b c d => by rw [rOkL, rOkL, rOkL, rOkL, rOkL]; exact ⟨a, b, c, d, trivial⟩
  have nb : ∀ b : Bool, isCnt (.bl b) = false := fun _ => rfl
  have ni : ∀ i : Int, isi "bool" (.int i) = false := fun i => by rfl
  simp only [List.cons_append, List.nil_append, List.forall_mem_cons]
  refine ⟨⟨t _ (r4 i1 i2 (kn _) (kb _)), ?_⟩, ⟨by rw [rOk]; exact r4 i1 i2 (kb _) (kb _), rfl⟩, ⟨t _ (r4 i1 i2 (kb _) (kn _)), ?_⟩, ⟨t _ (r4 (kb _) i2 (kb _) (kb _)), ?_⟩, ⟨t _ (r4 i1 (kb _) (kb _) (kb _)), ?_⟩, ⟨t _ (by rw [rOkL]; exact ⟨i1, r4 i2 (kb _) (kb _) (kb _)⟩), rfl⟩, fun _ h => nomatch h⟩
  · show (isCnt (.int p.1) && isCnt (.int p.2.1) && isi "bool" (.int (if p.2.2.1 = true then 1 else 0)) && isi "bool" (.bl p.2.2.2)) = false
    rw [ni, Bool.and_false, Bool.false_and]
  · show (isCnt (.int p.1) && isCnt (.int p.2.1) && isi "bool" (.bl p.2.2.1) && isi "bool" (.int (if p.2.2.2 = true then 1 else 0))) = false
    rw [ni, Bool.and_false]
  · show (isCnt (.bl (decide (p.1 = 1))) && isCnt (.int p.2.1) && isi "bool" (.bl p.2.2.1) && isi "bool" (.bl p.2.2.2)) = false
    rw [nb]; rfl
  · show (isCnt (.int p.1) && isCnt (.bl (decide (p.2.1 = 1))) && isi "bool" (.bl p.2.2.1) && isi "bool" (.bl p.2.2.2)) = false
    rw [nb, Bool.and_false]; rfl
theorem law_b4 {p : Pc} (h : Okp p) (hN : ∀ o12 o13 o14 o15 o16, W.nx (SL o2 o3 o4 (some (.sh (hpD A))) o6 o7 o8 o9 o10 o11 o12 o13 o14 o15 o16 o17)) :
    b_law_4 W (SL o2 o3 o4 (some (.sh (hpD A))) o6 o7 o8 o9 o10 o11 (some (.sh (.int p.1))) (some (.sh (.int p.2.1))) (some (.sh (.bl p.2.2.1))) (some (.sh (.bl p.2.2.2))) o16 o17) := by
  have key : law_at_21 W (SL o2 o3 o4 (some (.sh (hpD A))) o6 o7 o8 o9 o10 o11 (some (.sh (.int p.1))) (some (.sh (.int p.2.1))) (some (.sh (.bl p.2.2.1))) (some (.sh (.bl p.2.2.2))) (some (.sh (.lst (nearL p)))) o17) := by
    simp only [law_at_21, ↓zHd0, zHp0, ↓zGd0, ↓zGd1, ↓zGd2, ↓zGd3, ↓zGd4, zGp0, startD, ↓List.map_cons, ↓List.map_nil, ↓List.length_cons, ↓List.length_nil, Nat.reduceAdd, Nat.reduceSub, Nat.sub_self, List.replicate, ↓List.cons_append, ↓List.nil_append, List.append_nil, ↓List.getElem?_cons_zero, ↓List.getElem?_cons_succ, ↓List.set_cons_zero, ↓List.set_cons_succ, wipeD, Bool.not_true, Bool.not_false, decide_true, decide_false, beq_self_eq_true, true_and, and_true, Nat.reduceLeDiff, toDs, toDk, toDs_sh, ↓zS_ii, ↓zS_bi, ↓zS_bb, ↓zS_tt, ↓zS_ll, ↓zS_lt, ↓zS_lk, ↓zS_cut3, ↓zS_r3, ↓zS_r3D, ↓zS_nonI, ↓zS_nonN, ↓zS_ownO, ↓zS_isF]
    refine ⟨by rw [sizeLine_eq]; simp, by rw [sizeLine_eq]; simp, ?_⟩
    refine nearc (A := A) (fun y => rfl) (xs := nearL p ++ nearM p) (near_ok h) ?_
    refine ⟨⟨by rfl, by rfl⟩, ?_⟩
    rw [show eqb (D.lst []) (D.lst []) = true from eqb_refl (by rfl)]
    try simp only [↓zHd0, zHp0, ↓zGd0, ↓zGd1, ↓zGd2, ↓zGd3, ↓zGd4, zGp0, startD, ↓List.map_cons, ↓List.map_nil, ↓List.length_cons, ↓List.length_nil, Nat.reduceAdd, Nat.reduceSub, Nat.sub_self, List.replicate, ↓List.cons_append, ↓List.nil_append, List.append_nil, ↓List.getElem?_cons_zero, ↓List.getElem?_cons_succ, ↓List.set_cons_zero, ↓List.set_cons_succ, wipeD, Bool.not_true, Bool.not_false, decide_true, decide_false, beq_self_eq_true, true_and, and_true, Nat.reduceLeDiff, toDs, toDk, toDs_sh, ↓zS_ii, ↓zS_bi, ↓zS_bb, ↓zS_tt, ↓zS_ll, ↓zS_lt, ↓zS_lk, ↓zS_cut3, ↓zS_r3, ↓zS_r3D, ↓zS_nonI, ↓zS_nonN, ↓zS_ownO, ↓zS_isF]
    exact hN _ _ _ _ _
  simp only [b_law_4, ↓zHd0, zHp0, ↓zGd0, ↓zGd1, ↓zGd2, ↓zGd3, ↓zGd4, zGp0, startD, ↓List.map_cons, ↓List.map_nil, ↓List.length_cons, ↓List.length_nil, Nat.reduceAdd, Nat.reduceSub, Nat.sub_self, List.replicate, ↓List.cons_append, ↓List.nil_append, List.append_nil, ↓List.getElem?_cons_zero, ↓List.getElem?_cons_succ, ↓List.set_cons_zero, ↓List.set_cons_succ, wipeD, Bool.not_true, Bool.not_false, decide_true, decide_false, beq_self_eq_true, true_and, and_true, Nat.reduceLeDiff, toDs, toDk, toDs_sh, ↓zS_ii, ↓zS_bi, ↓zS_bb, ↓zS_tt, ↓zS_ll, ↓zS_lt, ↓zS_lk, ↓zS_cut3, ↓zS_r3, ↓zS_r3D, ↓zS_nonI, ↓zS_nonN, ↓zS_ownO, ↓zS_isF]
  exact key
theorem law_l4 : ∀ (u : List Pc), Okl u → (∀ o12 o13 o14 o15 o16, W.nx (SL o2 o3 o4 (some (.sh (hpD A))) o6 o7 o8 o9 o10 o11 o12 o13 o14 o15 o16 o17)) → ∀ o12 o13 o14 o15 o16,
    forD (gT 4 (gsCons (gN 12) (gsCons (gN 13) (gsCons (gN 14) (gsCons (gN 15) gsNil))))) b_law_4 W (u.map pcD) (SL o2 o3 o4 (some (.sh (hpD A))) o6 o7 o8 o9 o10 o11 o12 o13 o14 o15 o16 o17)
  | [], _, hN, _, _, _, _, _ => by rw [List.map_nil, forD_n]; exact hN _ _ _ _ _
  | p :: u, h, hN, _, _, _, _, _ => by
    have ih := law_l4 u (fun x hx => h x (List.mem_cons_of_mem _ hx)) hN
    have hp := h p List.mem_cons_self
    rw [List.map_cons, forD_c]
    generalize forD (gT 4 (gsCons (gN 12) (gsCons (gN 13) (gsCons (gN 14) (gsCons (gN 15) gsNil))))) b_law_4 W (u.map pcD) = F at ih ⊢
    unfold pcD
    simp only [↓zHd0, zHp0, ↓zGd0, ↓zGd1, ↓zGd2, ↓zGd3, ↓zGd4, zGp0, startD, ↓List.map_cons, ↓List.map_nil, ↓List.length_cons, ↓List.length_nil, Nat.reduceAdd, Nat.reduceSub, Nat.sub_self, List.replicate, ↓List.cons_append, ↓List.nil_append, List.append_nil, ↓List.getElem?_cons_zero, ↓List.getElem?_cons_succ, ↓List.set_cons_zero, ↓List.set_cons_succ, wipeD, Bool.not_true, Bool.not_false, decide_true, decide_false, beq_self_eq_true, true_and, and_true, Nat.reduceLeDiff, toDs, toDk, toDs_sh, ↓zS_ii, ↓zS_bi, ↓zS_bb, ↓zS_tt, ↓zS_ll, ↓zS_lt, ↓zS_lk, ↓zS_cut3, ↓zS_r3, ↓zS_r3D, ↓zS_nonI, ↓zS_nonN, ↓zS_ownO, ↓zS_isF]
    exact law_b4 hp fun _ _ _ _ _ => ih _ _ _ _ _
theorem law_23 (hN : W.nx (SL o2 o3 o4 (some (.sh (hpD A))) o6 o7 o8 o9 o10 o11 o12 o13 o14 o15 o16 o17)) :
    law_at_23 W (SL o2 o3 o4 (some (.sh (hpD A))) o6 o7 o8 o9 o10 o11 o12 o13 o14 o15 o16 o17) := by
  simp only [law_at_23, ↓zHd0, zHp0, ↓zGd0, ↓zGd1, ↓zGd2, ↓zGd3, ↓zGd4, zGp0, startD, ↓List.map_cons, ↓List.map_nil, ↓List.length_cons, ↓List.length_nil, Nat.reduceAdd, Nat.reduceSub, Nat.sub_self, List.replicate, ↓List.cons_append, ↓List.nil_append, List.append_nil, ↓List.getElem?_cons_zero, ↓List.getElem?_cons_succ, ↓List.set_cons_zero, ↓List.set_cons_succ, wipeD, Bool.not_true, Bool.not_false, decide_true, decide_false, beq_self_eq_true, true_and, and_true, Nat.reduceLeDiff, toDs, toDk, toDs_sh, ↓zS_ii, ↓zS_bi, ↓zS_bb, ↓zS_tt, ↓zS_ll, ↓zS_lt, ↓zS_lk, ↓zS_cut3, ↓zS_r3, ↓zS_r3D, ↓zS_nonI, ↓zS_nonN, ↓zS_ownO, ↓zS_isF]
  refine ⟨by rfl, ord_o ?_⟩
  try simp only [↓zHd0, zHp0, ↓zGd0, ↓zGd1, ↓zGd2, ↓zGd3, ↓zGd4, zGp0, startD, ↓List.map_cons, ↓List.map_nil, ↓List.length_cons, ↓List.length_nil, Nat.reduceAdd, Nat.reduceSub, Nat.sub_self, List.replicate, ↓List.cons_append, ↓List.nil_append, List.append_nil, ↓List.getElem?_cons_zero, ↓List.getElem?_cons_succ, ↓List.set_cons_zero, ↓List.set_cons_succ, wipeD, Bool.not_true, Bool.not_false, decide_true, decide_false, beq_self_eq_true, true_and, and_true, Nat.reduceLeDiff, toDs, toDk, toDs_sh, ↓zS_ii, ↓zS_bi, ↓zS_bb, ↓zS_tt, ↓zS_ll, ↓zS_lt, ↓zS_lk, ↓zS_cut3, ↓zS_r3, ↓zS_r3D, ↓zS_nonI, ↓zS_nonN, ↓zS_ownO, ↓zS_isF]
  refine ⟨by rfl, con_o ?_⟩
  try simp only [↓zHd0, zHp0, ↓zGd0, ↓zGd1, ↓zGd2, ↓zGd3, ↓zGd4, zGp0, startD, ↓List.map_cons, ↓List.map_nil, ↓List.length_cons, ↓List.length_nil, Nat.reduceAdd, Nat.reduceSub, Nat.sub_self, List.replicate, ↓List.cons_append, ↓List.nil_append, List.append_nil, ↓List.getElem?_cons_zero, ↓List.getElem?_cons_succ, ↓List.set_cons_zero, ↓List.set_cons_succ, wipeD, Bool.not_true, Bool.not_false, decide_true, decide_false, beq_self_eq_true, true_and, and_true, Nat.reduceLeDiff, toDs, toDk, toDs_sh, ↓zS_ii, ↓zS_bi, ↓zS_bb, ↓zS_tt, ↓zS_ll, ↓zS_lt, ↓zS_lk, ↓zS_cut3, ↓zS_r3, ↓zS_r3D, ↓zS_nonI, ↓zS_nonN, ↓zS_ownO, ↓zS_isF]
  refine heard_o ?_
  rw [sd_f]
  try simp only [↓zHd0, zHp0, ↓zGd0, ↓zGd1, ↓zGd2, ↓zGd3, ↓zGd4, zGp0, startD, ↓List.map_cons, ↓List.map_nil, ↓List.length_cons, ↓List.length_nil, Nat.reduceAdd, Nat.reduceSub, Nat.sub_self, List.replicate, ↓List.cons_append, ↓List.nil_append, List.append_nil, ↓List.getElem?_cons_zero, ↓List.getElem?_cons_succ, ↓List.set_cons_zero, ↓List.set_cons_succ, wipeD, Bool.not_true, Bool.not_false, decide_true, decide_false, beq_self_eq_true, true_and, and_true, Nat.reduceLeDiff, toDs, toDk, toDs_sh, ↓zS_ii, ↓zS_bi, ↓zS_bb, ↓zS_tt, ↓zS_ll, ↓zS_lt, ↓zS_lk, ↓zS_cut3, ↓zS_r3, ↓zS_r3D, ↓zS_nonI, ↓zS_nonN, ↓zS_ownO, ↓zS_isF]
  refine ⟨⟨by decide +kernel, by decide +kernel⟩, ?_⟩
  rw [eqb_refl (by decide +kernel)]
  try simp only [↓zHd0, zHp0, ↓zGd0, ↓zGd1, ↓zGd2, ↓zGd3, ↓zGd4, zGp0, startD, ↓List.map_cons, ↓List.map_nil, ↓List.length_cons, ↓List.length_nil, Nat.reduceAdd, Nat.reduceSub, Nat.sub_self, List.replicate, ↓List.cons_append, ↓List.nil_append, List.append_nil, ↓List.getElem?_cons_zero, ↓List.getElem?_cons_succ, ↓List.set_cons_zero, ↓List.set_cons_succ, wipeD, Bool.not_true, Bool.not_false, decide_true, decide_false, beq_self_eq_true, true_and, and_true, Nat.reduceLeDiff, toDs, toDk, toDs_sh, ↓zS_ii, ↓zS_bi, ↓zS_bb, ↓zS_tt, ↓zS_ll, ↓zS_lt, ↓zS_lk, ↓zS_cut3, ↓zS_r3, ↓zS_r3D, ↓zS_nonI, ↓zS_nonN, ↓zS_ownO, ↓zS_isF]
  exact hN
theorem law_19 {u : List Pc} (hu : Okl u) (hl : u.length ≤ 1000) (hN : ∀ o12 o13 o14 o15 o16, W.nx (SL o2 (some (.sh (lD u))) o4 (some (.sh (hpD A))) o6 o7 o8 o9 o10 o11 o12 o13 o14 o15 o16 o17)) :
    law_at_19 W (SL o2 (some (.sh (lD u))) o4 (some (.sh (hpD A))) o6 o7 o8 o9 o10 o11 o12 o13 o14 o15 o16 o17) := by
  simp only [law_at_19, ↓zHd0, zHp0, ↓zGd0, ↓zGd1, ↓zGd2, ↓zGd3, ↓zGd4, zGp0, startD, ↓List.map_cons, ↓List.map_nil, ↓List.length_cons, ↓List.length_nil, Nat.reduceAdd, Nat.reduceSub, Nat.sub_self, List.replicate, ↓List.cons_append, ↓List.nil_append, List.append_nil, ↓List.getElem?_cons_zero, ↓List.getElem?_cons_succ, ↓List.set_cons_zero, ↓List.set_cons_succ, wipeD, Bool.not_true, Bool.not_false, decide_true, decide_false, beq_self_eq_true, true_and, and_true, Nat.reduceLeDiff, toDs, toDk, toDs_sh, ↓zS_ii, ↓zS_bi, ↓zS_bb, ↓zS_tt, ↓zS_ll, ↓zS_lt, ↓zS_lk, ↓zS_cut3, ↓zS_r3, ↓zS_r3D, ↓zS_nonI, ↓zS_nonN, ↓zS_ownO, ↓zS_isF]
  have e : cut (u.map pcD) none (some 3) = (u.take 3).map pcD := by
    unfold cut
    rw [show HT.sIx (u.map pcD).length 0 none = 0 from rfl, show HT.sIx (u.map pcD).length (u.map pcD).length (some 3) = min 3 (u.map pcD).length from rfl, List.drop_zero, Nat.sub_zero, List.map_take, List.length_map]
    rw [← List.map_take, ← List.map_take, List.take_eq_take_min (i := 3)]
  show oSl (lD u) none (some 3) _
  unfold lD
  try simp only [↓zHd0, zHp0, ↓zGd0, ↓zGd1, ↓zGd2, ↓zGd3, ↓zGd4, zGp0, startD, ↓List.map_cons, ↓List.map_nil, ↓List.length_cons, ↓List.length_nil, Nat.reduceAdd, Nat.reduceSub, Nat.sub_self, List.replicate, ↓List.cons_append, ↓List.nil_append, List.append_nil, ↓List.getElem?_cons_zero, ↓List.getElem?_cons_succ, ↓List.set_cons_zero, ↓List.set_cons_succ, wipeD, Bool.not_true, Bool.not_false, decide_true, decide_false, beq_self_eq_true, true_and, and_true, Nat.reduceLeDiff, toDs, toDk, toDs_sh, ↓zS_ii, ↓zS_bi, ↓zS_bb, ↓zS_tt, ↓zS_ll, ↓zS_lt, ↓zS_lk, ↓zS_cut3, ↓zS_r3, ↓zS_r3D, ↓zS_nonI, ↓zS_nonN, ↓zS_ownO, ↓zS_isF]
  rw [e]
  exact law_l4 (u.take 3) (fun x hx => hu x (List.mem_of_mem_take hx)) (fun _ _ _ _ _ => law_23 (hN _ _ _ _ _)) _ _ _ _ _
end
section
variable {W : DEnds} {A : List Pc} {d : D} {o2 o3 o4 o5 o6 o7 o8 o9 o10 o11 o12 o13 o14 o15 o16 o17 : Option SD}
theorem law_l2 : ∀ (xs : List D), (∀ x ∈ xs, Th x) → (∀ o6 o7 o8 o9, W.nx (SL o2 o3 o4 (some (.sh (hpD A))) o6 o7 o8 o9 o10 o11 o12 o13 o14 o15 o16 o17)) → ∀ o6 o7 o8 o9,
    forD (gN 6) b_law_2 W xs (SL o2 o3 o4 (some (.sh (hpD A))) o6 o7 o8 o9 o10 o11 o12 o13 o14 o15 o16 o17)
  | [], _, hN, _, _, _, _ => by rw [forD_n]; exact hN _ _ _ _
  | x :: xs, h, hN, _, _, _, _ => by
    have ih := law_l2 xs (fun y hy => h y (List.mem_cons_of_mem _ hy)) hN
    have hx := h x List.mem_cons_self
    rw [forD_c]
    generalize forD (gN 6) b_law_2 W xs = F at ih ⊢
    simp only [↓zHd0, zHp0, ↓zGd0, ↓zGd1, ↓zGd2, ↓zGd3, ↓zGd4, zGp0, startD, ↓List.map_cons, ↓List.map_nil, ↓List.length_cons, ↓List.length_nil, Nat.reduceAdd, Nat.reduceSub, Nat.sub_self, List.replicate, ↓List.cons_append, ↓List.nil_append, List.append_nil, ↓List.getElem?_cons_zero, ↓List.getElem?_cons_succ, ↓List.set_cons_zero, ↓List.set_cons_succ, wipeD, Bool.not_true, Bool.not_false, decide_true, decide_false, beq_self_eq_true, true_and, and_true, Nat.reduceLeDiff, toDs, toDk, toDs_sh, ↓zS_ii, ↓zS_bi, ↓zS_bb, ↓zS_tt, ↓zS_ll, ↓zS_lt, ↓zS_lk, ↓zS_cut3, ↓zS_r3, ↓zS_r3D, ↓zS_nonI, ↓zS_nonN, ↓zS_ownO, ↓zS_isF]
    exact law_b2 hx fun _ _ _ => ih _ _ _ _
theorem law_t {u : List Pc} (hu : Okl u) (ul : u.length ≤ 5) (hd : Od d) (h12 : ∀ o6 o7 o8 o9, W.nx (SL o2 (some (.sh (lD u))) (some (.sh d)) (some (.sh (hpD A))) o6 o7 o8 o9 o10 o11 o12 o13 o14 o15 o16 o17)) :
    S__law_spoilt [.bag, lD u, d] fun t => forD (gN 6) b_law_2 W [t, d, .lst [d], .tup [lD u]] (SL o2 (some (.sh (lD u))) (some (.sh d)) (some (.sh (hpD A))) o6 o7 o8 o9 o10 o11 o12 o13 o14 o15 o16 o17) := by
  have fin : ∀ t, Th t → forD (gN 6) b_law_2 W [t, d, .lst [d], .tup [lD u]] (SL o2 (some (.sh (lD u))) (some (.sh d)) (some (.sh (hpD A))) o6 o7 o8 o9 o10 o11 o12 o13 o14 o15 o16 o17) := fun t ht => law_l2 _ (fun x hx => by
    simp only [List.mem_cons, List.not_mem_nil, or_false] at hx
    rcases hx with rfl | rfl | rfl | rfl
    · exact ht
    · exact th_od hd
    · exact th_od1 hd
    · exact th_ps hu (by omega)) h12 _ _ _ _
  generalize forD (gN 6) b_law_2 W = F at fin ⊢
  exact spoilt_ok hu ul hd fun xs h1 h2 => ⟨fin _ (th_seq h1 h2).1, fin _ (th_seq h1 h2).2⟩
theorem law_5 {u : List Pc} (hu : Okl u) (ul : u.length ≤ 5) (hd : Od d) (h12 : ∀ o6 o7 o8 o9, law_at_12 W (SL o2 (some (.sh (lD u))) (some (.sh d)) (some (.sh (hpD A))) o6 o7 o8 o9 o10 o11 o12 o13 o14 o15 o16 o17)) :
    law_at_5 W (SL o2 (some (.sh (lD u))) (some (.sh d)) (some (.sh (hpD A))) o6 o7 o8 o9 o10 o11 o12 o13 o14 o15 o16 o17) := by
  have key := law_t (W := { W with nx := law_at_12 W }) (o6 := o6) (o7 := o7) (o8 := o8) (o9 := o9) hu ul hd h12
  simp only [law_at_5, ↓zHd0, zHp0, ↓zGd0, ↓zGd1, ↓zGd2, ↓zGd3, ↓zGd4, zGp0, startD, ↓List.map_cons, ↓List.map_nil, ↓List.length_cons, ↓List.length_nil, Nat.reduceAdd, Nat.reduceSub, Nat.sub_self, List.replicate, ↓List.cons_append, ↓List.nil_append, List.append_nil, ↓List.getElem?_cons_zero, ↓List.getElem?_cons_succ, ↓List.set_cons_zero, ↓List.set_cons_succ, wipeD, Bool.not_true, Bool.not_false, decide_true, decide_false, beq_self_eq_true, true_and, and_true, Nat.reduceLeDiff, toDs, toDk, toDs_sh, ↓zS_ii, ↓zS_bi, ↓zS_bb, ↓zS_tt, ↓zS_ll, ↓zS_lt, ↓zS_lk, ↓zS_cut3, ↓zS_r3, ↓zS_r3D, ↓zS_nonI, ↓zS_nonN, ↓zS_ownO, ↓zS_isF]
  exact key
theorem law_4 {u : List Pc} (hu : Okl u) (ul : u.length ≤ 5) (hd : Od d) (h12 : ∀ o6 o7 o8 o9, law_at_12 W (SL o2 (some (.sh (lD u))) (some (.sh d)) (some (.sh (hpD (Nn u)))) o6 o7 o8 o9 o10 o11 o12 o13 o14 o15 o16 o17)) :
    law_at_4 W (SL o2 (some (.sh (lD u))) (some (.sh d)) o5 o6 o7 o8 o9 o10 o11 o12 o13 o14 o15 o16 o17) := by
  have key := law_5 (o6 := o6) (o7 := o7) (o8 := o8) (o9 := o9) hu ul hd h12
  simp only [law_at_4, ↓zHd0, zHp0, ↓zGd0, ↓zGd1, ↓zGd2, ↓zGd3, ↓zGd4, zGp0, startD, ↓List.map_cons, ↓List.map_nil, ↓List.length_cons, ↓List.length_nil, Nat.reduceAdd, Nat.reduceSub, Nat.sub_self, List.replicate, ↓List.cons_append, ↓List.nil_append, List.append_nil, ↓List.getElem?_cons_zero, ↓List.getElem?_cons_succ, ↓List.set_cons_zero, ↓List.set_cons_succ, wipeD, Bool.not_true, Bool.not_false, decide_true, decide_false, beq_self_eq_true, true_and, and_true, Nat.reduceLeDiff, toDs, toDk, toDs_sh, ↓zS_ii, ↓zS_bi, ↓zS_bb, ↓zS_tt, ↓zS_ll, ↓zS_lt, ↓zS_lk, ↓zS_cut3, ↓zS_r3, ↓zS_r3D, ↓zS_nonI, ↓zS_nonN, ↓zS_ownO, ↓zS_isF]
  exact make_ok (Q := fun x => law_at_5 W (SL o2 (some (.sh (lD u))) (some (.sh d)) (some (.sh x)) o6 o7 o8 o9 o10 o11 o12 o13 o14 o15 o16 o17)) (sqd_l u) hu (by omega) key
theorem law_b5 (hN : ∀ o3 o4 o5 o6 o7 o8 o9 o10 o11 o12 o13 o14 o15 o16, W.nx (SL o2 o3 o4 o5 o6 o7 o8 o9 o10 o11 o12 o13 o14 o15 o16 o17)) :
    b_law_5 W (SL o2 o3 o4 o5 o6 o7 o8 o9 o10 o11 o12 o13 o14 o15 o16 o17) := by
  have key : ∀ u, Okl u → u.length ≤ 5 → ∀ d, Od d → law_at_4 W (SL o2 (some (.sh (lD u))) (some (.sh d)) o5 o6 o7 o8 o9 o10 o11 o12 o13 o14 o15 o16 o17) := fun u hu ul d hd => by
    have hn := Nn_le u
    have ha : Okl (Nn u) := Nn_okl hu
    exact law_4 hu ul hd fun _ _ _ _ => law_12 hd ha (by omega) fun _ => law_15 fun _ _ => law_19 hu (by omega) fun _ _ _ _ _ => hN _ _ _ _ _ _ _ _ _ _ _ _ _ _
  simp only [b_law_5, ↓zHd0, zHp0, ↓zGd0, ↓zGd1, ↓zGd2, ↓zGd3, ↓zGd4, zGp0, startD, ↓List.map_cons, ↓List.map_nil, ↓List.length_cons, ↓List.length_nil, Nat.reduceAdd, Nat.reduceSub, Nat.sub_self, List.replicate, ↓List.cons_append, ↓List.nil_append, List.append_nil, ↓List.getElem?_cons_zero, ↓List.getElem?_cons_succ, ↓List.set_cons_zero, ↓List.set_cons_succ, wipeD, Bool.not_true, Bool.not_false, decide_true, decide_false, beq_self_eq_true, true_and, and_true, Nat.reduceLeDiff, toDs, toDk, toDs_sh, ↓zS_ii, ↓zS_bi, ↓zS_bb, ↓zS_tt, ↓zS_ll, ↓zS_lt, ↓zS_lk, ↓zS_cut3, ↓zS_r3, ↓zS_r3D, ↓zS_nonI, ↓zS_nonN, ↓zS_ownO, ↓zS_isF]
  exact drawn_ok fun u hu ul => odd_ok fun d hd => key u hu ul d hd
end
theorem law_l5 {W : DEnds} : ∀ (n : Nat) (k : Int) (o2 o3 o4 o5 o6 o7 o8 o9 o10 o11 o12 o13 o14 o15 o16 o17 : Option SD), (∀ o2 o3 o4 o5 o6 o7 o8 o9 o10 o11 o12 o13 o14 o15 o16 o17, W.nx (SL o2 o3 o4 o5 o6 o7 o8 o9 o10 o11 o12 o13 o14 o15 o16 o17)) →
    forD (gN 2) b_law_5 W (ups k n) (SL o2 o3 o4 o5 o6 o7 o8 o9 o10 o11 o12 o13 o14 o15 o16 o17)
  | 0, k, _, _, _, _, _, _, _, _, _, _, _, _, _, _, _, _, hN => by rw [ups_zero, forD_n]; exact hN _ _ _ _ _ _ _ _ _ _ _ _ _ _ _ _
  | n + 1, k, _, o3, o4, o5, o6, o7, o8, o9, o10, o11, o12, o13, o14, o15, o16, o17, hN => by
    have ih := law_l5 (W := W) n (k + 1)
    rw [ups_succ, forD_c]
    have ih := fun o2 o3 o4 o5 o6 o7 o8 o9 o10 o11 o12 o13 o14 o15 o16 o17 => ih o2 o3 o4 o5 o6 o7 o8 o9 o10 o11 o12 o13 o14 o15 o16 o17 hN
    generalize forD (gN 2) b_law_5 W (ups (k + 1) n) = F at ih ⊢
    simp only [↓zHd0, zHp0, ↓zGd0, ↓zGd1, ↓zGd2, ↓zGd3, ↓zGd4, zGp0, startD, ↓List.map_cons, ↓List.map_nil, ↓List.length_cons, ↓List.length_nil, Nat.reduceAdd, Nat.reduceSub, Nat.sub_self, List.replicate, ↓List.cons_append, ↓List.nil_append, List.append_nil, ↓List.getElem?_cons_zero, ↓List.getElem?_cons_succ, ↓List.set_cons_zero, ↓List.set_cons_succ, wipeD, Bool.not_true, Bool.not_false, decide_true, decide_false, beq_self_eq_true, true_and, and_true, Nat.reduceLeDiff, toDs, toDk, toDs_sh, ↓zS_ii, ↓zS_bi, ↓zS_bb, ↓zS_tt, ↓zS_ll, ↓zS_lt, ↓zS_lk, ↓zS_cut3, ↓zS_r3, ↓zS_r3D, ↓zS_nonI, ↓zS_nonN, ↓zS_ownO, ↓zS_isF]
    exact law_b5 fun _ _ _ _ _ _ _ _ _ _ _ _ _ _ => ih _ _ _ _ _ _ _ _ _ _ _ _ _ _ _ _
theorem vc_law : t_law { nx := fun _ => False, rt := fun d => d = .bl true } [none, some (.sh .bag), none, none, none, none, none, none, none, none, none, none, none, none, none, none, none, none] := by
  simp only [t_law, ↓zHd0, zHp0, ↓zGd0, ↓zGd1, ↓zGd2, ↓zGd3, ↓zGd4, zGp0, startD, ↓List.map_cons, ↓List.map_nil, ↓List.length_cons, ↓List.length_nil, Nat.reduceAdd, Nat.reduceSub, Nat.sub_self, List.replicate, ↓List.cons_append, ↓List.nil_append, List.append_nil, ↓List.getElem?_cons_zero, ↓List.getElem?_cons_succ, ↓List.set_cons_zero, ↓List.set_cons_succ, wipeD, Bool.not_true, Bool.not_false, decide_true, decide_false, beq_self_eq_true, true_and, and_true, Nat.reduceLeDiff, toDs, toDk, toDs_sh, ↓zS_ii, ↓zS_bi, ↓zS_bb, ↓zS_tt, ↓zS_ll, ↓zS_lt, ↓zS_lk, ↓zS_cut3, ↓zS_r3, ↓zS_r3D, ↓zS_nonI, ↓zS_nonN, ↓zS_ownO, ↓zS_isF]
  refine ⟨by decide, ?_⟩
  refine law_l5 _ 0 none none none none none none none none none none none none none none none none fun _ _ _ _ _ _ _ _ _ _ _ _ _ _ _ _ => ?_
  simp only [law_at_25, ↓zHd0, zHp0, ↓zGd0, ↓zGd1, ↓zGd2, ↓zGd3, ↓zGd4, zGp0, startD, ↓List.map_cons, ↓List.map_nil, ↓List.length_cons, ↓List.length_nil, Nat.reduceAdd, Nat.reduceSub, Nat.sub_self, List.replicate, ↓List.cons_append, ↓List.nil_append, List.append_nil, ↓List.getElem?_cons_zero, ↓List.getElem?_cons_succ, ↓List.set_cons_zero, ↓List.set_cons_succ, wipeD, Bool.not_true, Bool.not_false, decide_true, decide_false, beq_self_eq_true, true_and, and_true, Nat.reduceLeDiff, toDs, toDk, toDs_sh, ↓zS_ii, ↓zS_bi, ↓zS_bb, ↓zS_tt, ↓zS_ll, ↓zS_lt, ↓zS_lk, ↓zS_cut3, ↓zS_r3, ↓zS_r3D, ↓zS_nonI, ↓zS_nonN, ↓zS_ownO, ↓zS_isF]
def spLaw (K : PySem.W.Frag) (tb : List Addr) : Sp := fun vs H P _ => ∃ (a : Addr) (ns : List Int), vs = [.ref a] ∧ SqL K H a (ns.map V.int) ∧ ns.length ≤ 63 ∧ (∀ t ∈ tb, H t = some (.tbl #[])) ∧ ∀ H', P (.bl true) H'
theorem pss_ex {α : Type} {X : Cx} {sts : List Stmt} {f : α → TS} (h : ∀ b, PSs X sts (f b)) : PSs X sts (fun D σ H => ∃ b, f b D σ H) := ⟨fun pins s σ H D I ⟨b, q⟩ => (h b).run pins s σ H D I q⟩
theorem d_law {P : Program} {w : World} {K : PySem.W.Frag} {mg : Str → Option Value} {base : Heap} {B : Bx} (T : Top K mg B.ct) (TX : TopX P w K mg base B.ct T) (hB : B.tb = tbs TX) {c : Addr} (hec : T.f_law.fd.code = .ref c) {A : Around} {outer : List Env} {s : Shared} {H : Hp} {E : XK} (hgd : A.guards = some []) (hr : Room 7 (A.deeper (envOfC "law" (defScope s_law) s.heap.objs.size T.f_law.f (.ref c)))) :
    PSsD (cxOf CX0 P w K mg base ["_law_script", "_law_bag_here", "_law_turn", "_law_pieces", "_law_odd_here", "_law_heap", "_law_thing", "_law_due", "_law_shown", "_law_again", "_law_none", "_law_strange", "_law_i", "_law_j", "_law_above", "_law_on", "_law_near", "_law_one"] "law" (defScope s_law) T.f_law.f (.ref c) A outer s H E).nox B ((defBody s_law).drop 1) t_law := by
  have hgd : (cxOf CX0 P w K mg base ["_law_script", "_law_bag_here", "_law_turn", "_law_pieces", "_law_odd_here", "_law_heap", "_law_thing", "_law_due", "_law_shown", "_law_again", "_law_none", "_law_strange", "_law_i", "_law_j", "_law_above", "_law_on", "_law_near", "_law_one"] "law" (defScope s_law) T.f_law.f (.ref c) A outer s H E).nox.A.guards = some [] := hgd
  have hu70 : (cxOf CX0 P w K mg base ["_law_script", "_law_bag_here", "_law_turn", "_law_pieces", "_law_odd_here", "_law_heap", "_law_thing", "_law_due", "_law_shown", "_law_again", "_law_none", "_law_strange", "_law_i", "_law_j", "_law_above", "_law_on", "_law_near", "_law_one"] "law" (defScope s_law) T.f_law.f (.ref c) A outer s H E).nox.A.units + 70 < cLine := Nat.lt_of_le_of_lt (Nat.add_le_add_left (by decide : 70 ≤ 16 * 7 + 200) _) hr.un

  refine psd_cons ?_ ?_
  · refine psd_for PassesOwn.never rfl (pid_r1 (by rfl) T.n_range (pad_cons pd_int pad_nil)) (pgd_name (i := 2) sc_law.nd rfl (by first | exact .inl rfl | exact .inr rfl)) ?_
    refine psd_cons ?_ ?_
    · refine (psd_par (i := 3) (j := 4) rfl sc_law.nd rfl rfl (by decide) rfl rfl (pad_cons (pd_callD T.f__law_drawn_pieces (ok__law_drawn_pieces T) hr (by decide) (by rfl) (pad_cons (pd_var 1) (pad_cons pd_int pad_nil))) (pad_cons (pd_callD T.f__law_odd (ok__law_odd T) hr (by decide) (by rfl) (pad_cons (pd_var 1) (pad_cons pd_str pad_nil))) pad_nil)) (by rfl))
    refine psd_cons ?_ ?_
    · refine (psd_set (i := 5) sc_law.nd rfl (by first | exact .inl rfl | exact .inr rfl) (pd_make T.mk_Heap (r_Heap___init__ T) (hr.mono (by decide)) (by rfl) T.g_Heap (pad_cons (pd_var 3) pad_nil)))
    refine psd_cons ?_ ?_
    · refine psd_for PassesOwn.never rfl (pid_seq ?h6) (pgd_name (i := 6) sc_law.nd rfl (by first | exact .inl rfl | exact .inr rfl)) ?_
      case h6 => exact (pd_tup (pad_cons (pd_callD T.f__law_spoilt (ok__law_spoilt T) hr (by decide) (by rfl) (pad_cons (pd_var 1) (pad_cons (pd_var 3) (pad_cons (pd_var 4) pad_nil)))) (pad_cons (pd_var 4) (pad_cons (pd_f (pf_lst (pad_cons (pd_var 4) pad_nil))) (pad_cons (pd_tup (pad_cons (pd_var 3) pad_nil)) pad_nil)))))
      refine psd_cons ?_ ?_
      · refine (psd_par (i := 7) (j := 8) rfl sc_law.nd rfl rfl (by decide) rfl rfl (pad_cons (pd_ifE (ptd_val (pd_callD T.f__law_are_pieces (ok__law_are_pieces T) hr (by decide) (by rfl) (pad_cons (pd_var 6) pad_nil))) (pd_tup (pad_cons pd_str (pad_cons pd_bl pad_nil))) (pd_tup (pad_cons pd_str (pad_cons pd_int pad_nil)))) (pad_cons (pd_callB (call_reprN hgd hu70) (by rfl) T.n_repr (by decide +kernel) (pad_cons (pd_var 6) pad_nil)) pad_nil)) (by rfl))
      refine psd_cons ?_ ?_
      · refine psd_for PassesOwn.never rfl (pid_r1 (by rfl) T.n_range (pad_cons pd_int pad_nil)) (pgd_name (i := 9) sc_law.nd rfl (by first | exact .inl rfl | exact .inr rfl)) ?_
        refine psd_one ?_
        refine psd_if (pwd_or (ptd_not (ptd_val (pd_callDG T.f__law_alike (ok__law_alike T) hgd hr (by decide) (by rfl) (pad_cons (pd_callD T.f__law_heard (ok__law_heard T TX hB) hr (by decide) (by rfl) (pad_cons (pd_var 6) pad_nil)) (pad_cons (pd_var 7) pad_nil))))) (pwd_or1 (ptd_cmp (op_ne_d hr.units) (pd_callB (call_reprN hgd hu70) (by rfl) T.n_repr (by decide +kernel) (pad_cons (pd_var 6) pad_nil)) (pd_var 8) (by rfl)))).pt ?_ ?_
        · refine psd_one ?_
          refine (psd_ret pd_bl)
        · exact psd_nil
      refine psd_one ?_
      refine psd_if (pwd_or (pwd_and (ptd_cmp (op_eq_d hr.units) (pd_ix ix_d (pd_var 7) pd_int) pd_str (by rfl)) (pwd_and1 (ptd_cmp op_isnot_d (pd_meth T.c_Heap T.m_Heap_is_order (r_Heap_is_order T) (hr.mono (by decide)) (pd_var 5) (pad_cons (pd_var 6) pad_nil)) pd_bl (by rfl)))).pt (pwd_or1 (ptd_cmp (op_ne_d hr.units) (pd_callB (call_reprN hgd hu70) (by rfl) T.n_repr (by decide +kernel) (pad_cons (pd_var 6) pad_nil)) (pd_var 8) (by rfl)))).pt ?_ ?_
      · refine psd_one ?_
        refine (psd_ret pd_bl)
      · exact psd_nil
    refine psd_cons ?_ ?_
    · refine (psd_set (i := 10) sc_law.nd rfl (by first | exact .inl rfl | exact .inr rfl) (pd_and (pd_isiA known_list (by decide) T.ob_all (by rfl) T.n_isinstance (by rfl) T.n_list (by decide +kernel) (pd_var 4)) (pd_and (pd_cmp (op_eqE (room_u0 hr)) (pd_var 4) (pd_f (pf_lst pad_nil)) (by rfl)) (pd_1 (pd_cmp (op_eq_d hr.units) (pd_lenO T.m_Heap___len__ (r_Heap___len__ T) (hr.mono (by decide)) (by rfl) T.n_len (pd_var 5)) pd_int (by rfl))))))
    refine psd_cons ?_ ?_
    · refine psd_if (pwd_or (ptd_cmp (op_inO T.m_Heap___contains__.at_ T.m_Heap___contains__.fn (r_Heap___contains__ T) (hr.mono (by decide))) (pd_var 4) (pd_var 5) (by rfl)) (pwd_or1 (ptd_not (ptd_val (pd_callDG T.f__law_alike (ok__law_alike T) hgd hr (by decide) (by rfl) (pad_cons (pd_meth T.c_Heap T.m_Heap_is_order (r_Heap_is_order T) (hr.mono (by decide)) (pd_var 5) (pad_cons (pd_var 4) pad_nil)) (pad_cons (pd_var 10) pad_nil))))))).pt ?_ ?_
      · refine psd_one ?_
        refine (psd_ret pd_bl)
      · exact psd_nil
    refine psd_cons ?_ ?_
    · refine (psd_set (i := 11) sc_law.nd rfl (by first | exact .inl rfl | exact .inr rfl) (pd_f (pf_lst (pad_cons (pd_tup (pad_cons pd_str (pad_cons pd_bl pad_nil))) (pad_cons (pd_tup (pad_cons pd_str (pad_cons (pd_un un_neg_d pd_int) pad_nil))) (pad_cons (pd_tup (pad_cons pd_str (pad_cons pd_int pad_nil))) (pad_cons (pd_f (pf_lst (pad_cons pd_str (pad_cons pd_int pad_nil)))) (pad_cons (pd_tup (pad_cons pd_str pad_nil)) (pad_cons (pd_tup (pad_cons pd_str (pad_cons pd_int (pad_cons pd_int pad_nil)))) (pad_cons pd_non (pad_cons pd_str pad_nil)))))))))))
    refine psd_cons ?_ ?_
    · refine psd_for PassesOwn.never rfl (pid_seq ?h7) (pgd_name (i := 6) sc_law.nd rfl (by first | exact .inl rfl | exact .inr rfl)) ?_
      case h7 => exact (pd_bin op_add_d (pd_var 11) (pd_f (pf_lst (pad_cons (pd_tup (pad_cons pd_str (pad_cons pd_str pad_nil))) (pad_cons pd_int (pad_cons pd_dic0 (pad_cons (pd_f (pf_lst pad_nil)) (pad_cons (pd_tup (pad_cons (pd_tup (pad_cons pd_str pad_nil)) (pad_cons pd_int pad_nil))) pad_nil))))))))
      refine psd_one ?_
      refine psd_if (ptd_cmp (op_ne_d hr.units) (pd_meth T.c_Heap T.m_Heap_pieces_of (r_Heap_pieces_of T) (hr.mono (by decide)) (pd_var 5) (pad_cons (pd_var 6) pad_nil)) (pd_f (pf_lst pad_nil)) (by rfl)) ?_ ?_
      · refine psd_one ?_
        refine (psd_ret pd_bl)
      · exact psd_nil
    refine psd_cons ?_ ?_
    · refine psd_for PassesOwn.never rfl (pid_seq ?h8) (pgd_tup rfl (pgsd_cons (pgd_name (i := 12) sc_law.nd rfl (by first | exact .inl rfl | exact .inr rfl)) (pgsd_cons (pgd_name (i := 13) sc_law.nd rfl (by first | exact .inl rfl | exact .inr rfl)) (pgsd_cons (pgd_name (i := 14) sc_law.nd rfl (by first | exact .inl rfl | exact .inr rfl)) (pgsd_cons (pgd_name (i := 15) sc_law.nd rfl (by first | exact .inl rfl | exact .inr rfl)) pgsd_nil))))) ?_
      case h8 => exact (pd_slice (pd_var 3) pod_none (pod_some pd_int))
      refine psd_cons ?_ ?_
      · refine (psd_set (i := 16) sc_law.nd rfl (by first | exact .inl rfl | exact .inr rfl) (pd_f (pf_lst (pad_cons (pd_tup (pad_cons (pd_var 12) (pad_cons (pd_var 13) (pad_cons (pd_callTy call_int_d (by rfl) T.n_int (by decide +kernel) (pad_cons (pd_var 14) pad_nil)) (pad_cons (pd_var 15) pad_nil))))) (pad_cons (pd_f (pf_lst (pad_cons (pd_var 12) (pad_cons (pd_var 13) (pad_cons (pd_var 14) (pad_cons (pd_var 15) pad_nil)))))) (pad_cons (pd_tup (pad_cons (pd_var 12) (pad_cons (pd_var 13) (pad_cons (pd_var 14) (pad_cons (pd_callTy call_int_d (by rfl) T.n_int (by decide +kernel) (pad_cons (pd_var 15) pad_nil)) pad_nil))))) (pad_cons (pd_tup (pad_cons (pd_cmp (op_eq_d hr.units) (pd_var 12) pd_int (by rfl)) (pad_cons (pd_var 13) (pad_cons (pd_var 14) (pad_cons (pd_var 15) pad_nil))))) pad_nil)))))))
      refine psd_one ?_
      refine psd_if (ptd_cmp (op_ne_d hr.units) (pd_f (pf_lc rfl sc_law.nd (pid_seq ?h9) (blkOk_by (own := [("_law_one", 17)]) (by rfl)) (by decide) (fun _ _ _ _ _ => (pgd_name (i := 17) sc_law.nd rfl (by first | exact .inl rfl | exact .inr rfl))) (fun _ _ _ _ _ => ?h10) (fun _ _ _ _ _ => pd_int))) (pd_f (pf_lst pad_nil)) (by rfl)) ?_ ?_
      case h9 => exact (pd_bin op_add_d (pd_var 16) (pd_f (pf_lst (pad_cons (pd_tup (pad_cons (pd_var 12) (pad_cons (pd_cmp (op_eq_d hr.units) (pd_var 13) pd_int (by rfl)) (pad_cons (pd_var 14) (pad_cons (pd_var 15) pad_nil))))) (pad_cons (pd_tup (pad_cons (pd_var 12) (pad_cons (pd_var 13) (pad_cons (pd_var 14) (pad_cons (pd_var 15) (pad_cons (pd_var 15) pad_nil)))))) pad_nil)))))
      case h10 => exact (ptsd_one (ptd_cmp (op_inO T.m_Heap___contains__.at_ T.m_Heap___contains__.fn (r_Heap___contains__ T) (hr.mono (by decide))) (pd_var 17) (pd_var 5) (by rfl)))
      · refine psd_one ?_
        refine (psd_ret pd_bl)
      · exact psd_nil
    refine psd_one ?_
    refine psd_if (pwd_or (ptd_cmp op_isnot_d (pd_meth T.c_Heap T.m_Heap_is_order (r_Heap_is_order T) (hr.mono (by decide)) (pd_var 5) (pad_cons (pd_var 5) pad_nil)) pd_bl (by rfl)) (pwd_or (ptd_cmp (op_inO T.m_Heap___contains__.at_ T.m_Heap___contains__.fn (r_Heap___contains__ T) (hr.mono (by decide))) (pd_var 5) (pd_var 5) (by rfl)) (pwd_or1 (ptd_cmp (op_ne_d hr.units) (pd_callD T.f__law_heard (ok__law_heard T TX hB) hr (by decide) (by rfl) (pad_cons (pd_var 5) pad_nil)) (pd_tup (pad_cons pd_str (pad_cons pd_int pad_nil))) (by rfl))))).pt ?_ ?_
    · refine psd_one ?_
      refine (psd_ret pd_bl)
    · exact psd_nil
  refine psd_one ?_
  refine (psd_ret pd_bl)
theorem ok_law {P : Program} {w : World} {K : PySem.W.Frag} {mg : Str → Option Value} {base : Heap} {ct : Nat → Addr} (T : Top K mg ct) (TX : TopX P w K mg base ct T) : FnG P w K mg base CX0 8 T.f_law.f T.f_law.fd ["_law_script"] (spLaw K ((tbs TX).map (·.1))) := by
  refine fng_ofC (k := 7) T.f_law.fn sc_law (fun vs H Q E h => ?_) (fun c A outer s H vs Q E hec hgd hr h => ?_)
  · obtain ⟨a, ns, rfl, _⟩ := h
    rfl
  obtain ⟨a, ns, rfl, hS, hl, hT, q⟩ := h
  have rest : ∀ b : Addr × Addr, PSsD (cxOf CX0 P w K mg base ["_law_script", "_law_bag_here", "_law_turn", "_law_pieces", "_law_odd_here", "_law_heap", "_law_thing", "_law_due", "_law_shown", "_law_again", "_law_none", "_law_strange", "_law_i", "_law_j", "_law_above", "_law_on", "_law_near", "_law_one"] "law" (defScope s_law) T.f_law.f (.ref c) A outer s H E).nox ⟨b.1, b.2, ct, tbs TX, none⟩ ((defBody s_law).drop 1) t_law := fun b => d_law (B := ⟨b.1, b.2, ct, tbs TX, none⟩) T TX rfl hec hgd hr
  refine ⟨_, PSs.nox (pss_cons (ps_set (i := 1) sc_law.nd rfl (by first | exact .inl rfl | exact .inr rfl) (pe_call (ok__law_bag T) (hr.mono (by decide)) (by rfl) T.f__law_bag.at_ T.f__law_bag.fn.kp T.f__law_bag.bd .nil pass0 (pa_cons (pv 0) pa_nil))) (pss_ex rest)), ?_⟩
  refine ⟨.ref a, rfl, a, ns, rfl, hS, hl, fun b L H2 hb hL ne ex h1 h2 => ?_⟩
  let G : Hp := upd (fun _ => none) L (.lst ((ns.map absI).map V.int))
  have exG : Ex G H2 := fun x o hx => by
    by_cases e : x = L
    · subst e
      have hx : upd (fun _ => none) x (.lst ((ns.map absI).map V.int)) x = some o := hx
      rw [upd_same] at hx
      cases hx
      exact h2
    · have hx : upd (fun _ => none) L (.lst ((ns.map absI).map V.int)) x = some o := hx
      rw [upd_ne e] at hx
      cases hx
  have gb : G b = none := by
    show upd (fun _ => none) L _ b = none
    rw [upd_ne (Ne.symm ne)]
  have jn : Jn K ⟨b, L, ct, tbs TX, none⟩ G H2 := by
    refine ⟨exG, gb, ⟨0, 1234567891, 0, ns.map absI, h1, sq_of upd_same, by decide, by decide, by decide, by decide, fun n hn => ?_, by rw [List.length_map]; exact hl⟩, { tb := fun t z => ?_, ex := fun _ z => (nomatch z), keep := fun _ z => (nomatch z), old := fun _ z => (nomatch z) }⟩
    · obtain ⟨m, _, rfl⟩ := List.mem_map.mp hn
      unfold absI
      split <;> omega
    · have ht : H2 t.1 = some (.tbl #[]) := ex _ _ (hT t.1 (List.mem_map_of_mem z))
      refine ⟨⟨#[], ht, trivial, fun pos cv z => by cases z⟩, ?_⟩
      have nL : t.1 ≠ L := fun e => by
        rw [e, h2] at ht
        cases ht
      show upd (fun _ => none) L _ t.1 = none
      rw [upd_ne nL]
  refine ⟨(b, L), G, H2, G, [none, some (.sh .bag), none, none, none, none, none, none, none, none, none, none, none, none, none, none, none, none], { nx := fun _ => False, rt := fun d => d = .bl true }, Gr.refl jn, ?_, vc_law, ⟨fun _ _ _ _ z => z.elim, fun _ _ _ _ z => z.elim, fun _ _ _ _ z => z.elim, fun d v G3 H3 z _ _ hd => ?_, fun _ _ _ _ _ z => z.elim⟩⟩
  · have s0 := start_ok (K := K) (B := ⟨b, L, ct, tbs TX, none⟩) (H0 := H2) (G := G) (H := H2) (N := ["_law_script", "_law_bag_here", "_law_turn", "_law_pieces", "_law_odd_here", "_law_heap", "_law_thing", "_law_due", "_law_shown", "_law_again", "_law_none", "_law_strange", "_law_i", "_law_j", "_law_above", "_law_on", "_law_near", "_law_one"]) (vs := []) (ds := []) .nil
    exact (s0.forget (i := 0) (o := some (.ref a))).set (i := 1) (v := .ref b) (d := .bag) .bag
  · have z : d = .bl true := z
    subst z
    cases hd
    exact q _
theorem mkc_Heap {K : PySem.W.Frag} {C : Addr} (aC : PySem.W.nsIn K mainGlobals "Heap" = some (some (.ref C))) (c : SlX.SCls K C) (s_Heap_kept_pieces : SlotAt K C "kept_pieces" 0) (ob : ObjC K C) (i_Heap___contains__ : (∃ t : InAt K "__contains__" "Heap.__contains__" s_Heap___contains__ ["self", "thing"], Meth K C "__contains__" t.f)) (i_Heap___init__ : (∃ t : InAtD K "__init__" "Heap.__init__" s_Heap___init__ ["self", "pieces"], Mk K C t.f)) (i_Heap___len__ : (∃ t : InAt K "__len__" "Heap.__len__" s_Heap___len__ ["self"], Meth K C "__len__" t.f)) (i_Heap_is_order : (∃ t : InAt K "is_order" "Heap.is_order" s_Heap_is_order ["self", "thing"], Meth K C "is_order" t.f)) (i_Heap_pieces_of : (∃ t : InAt K "pieces_of" "Heap.pieces_of" s_Heap_pieces_of ["self", "ribbon"], Meth K C "pieces_of" t.f)) : ∃ C : Addr, PySem.W.nsIn K mainGlobals "Heap" = some (some (.ref C)) ∧ SlX.SCls K C ∧ SlotAt K C "kept_pieces" 0 ∧ ObjC K C ∧ (∃ t : InAt K "__contains__" "Heap.__contains__" s_Heap___contains__ ["self", "thing"], Meth K C "__contains__" t.f) ∧ (∃ t : InAtD K "__init__" "Heap.__init__" s_Heap___init__ ["self", "pieces"], Mk K C t.f) ∧ (∃ t : InAt K "__len__" "Heap.__len__" s_Heap___len__ ["self"], Meth K C "__len__" t.f) ∧ (∃ t : InAt K "is_order" "Heap.is_order" s_Heap_is_order ["self", "thing"], Meth K C "is_order" t.f) ∧ (∃ t : InAt K "pieces_of" "Heap.pieces_of" s_Heap_pieces_of ["self", "ribbon"], Meth K C "pieces_of" t.f) := ⟨C, aC, c, s_Heap_kept_pieces, ob, i_Heap___contains__, i_Heap___init__, i_Heap___len__, i_Heap_is_order, i_Heap_pieces_of⟩
abbrev sx_Wrong : Stmt := inClass (topS 3) 0
theorem mkx {P : Program} {w : World} {K : PySem.W.Frag} {mg : Str → Option Value} {C_RibbonError C_Wrong : Addr} (aRibbonError : mg "RibbonError" = some (.ref C_RibbonError)) (aWrong : mg "Wrong" = some (.ref C_Wrong)) (xWrong : ExcAll P w K mg C_Wrong "Wrong" "place" "place") (mWrong : PySem.W.exmOne K (.ref C_Wrong) (.ref C_RibbonError) = some true) (nWrong_place : PySem.W.findIn K (.ref C_Wrong) "place" = some none) (kWrong_Wrong : PySem.W.kitOne K (.ref C_Wrong) (.ref C_Wrong) = some true) : ∃ C_RibbonError C_Wrong : Addr, mg "RibbonError" = some (.ref C_RibbonError) ∧ mg "Wrong" = some (.ref C_Wrong) ∧ ExcAll P w K mg C_Wrong "Wrong" "place" "place" ∧ PySem.W.exmOne K (.ref C_Wrong) (.ref C_RibbonError) = some true ∧ PySem.W.findIn K (.ref C_Wrong) "place" = some none ∧ PySem.W.kitOne K (.ref C_Wrong) (.ref C_Wrong) = some true := ⟨C_RibbonError, C_Wrong, aRibbonError, aWrong, xWrong, mWrong, nWrong_place, kWrong_Wrong⟩
theorem fin {l : PySem.W.OpenLaw} {w : World} {K : PySem.W.Frag} {h : Heap} {mg : Str → Option Value} {fa : Addr} (X : K.In h) (G : h.Ns mainGlobals mg) (hfa : mg "law" = some (.ref fa))
    (d_is_integer : Nonempty (DefAt K mg "is_integer" s_is_integer ["thing"]))
    (d_is_count : Nonempty (DefAt K mg "is_count" s_is_count ["thing"]))
    (d_is_piece : Nonempty (DefAt K mg "is_piece" s_is_piece ["thing"]))
    (d_are_pieces : Nonempty (DefAt K mg "are_pieces" s_are_pieces ["thing"]))
    (d_touch : Nonempty (DefAt K mg "touch" s_touch ["one", "other"]))
    (d_with_levels : Nonempty (DefAt K mg "with_levels" s_with_levels ["pieces"]))
    (d_place_of_undone : Nonempty (DefAt K mg "place_of_undone" s_place_of_undone ["kept", "piece"]))
    (d_without_undone : Nonempty (DefAt K mg "without_undone" s_without_undone ["pieces"]))
    (d_in_order : Nonempty (DefAt K mg "in_order" s_in_order ["pieces"]))
    (d_is_side : Nonempty (DefAt K mg "is_side" s_is_side ["thing"]))
    (d__law_alike : Nonempty (DefAt K mg "_law_alike" s__law_alike ["_law_found", "_law_due"]))
    (d__law_is_piece : Nonempty (DefAt K mg "_law_is_piece" s__law_is_piece ["_law_thing"]))
    (d__law_are_pieces : Nonempty (DefAt K mg "_law_are_pieces" s__law_are_pieces ["_law_thing"]))
    (d__law_bag : Nonempty (DefAt K mg "_law_bag" s__law_bag ["_law_script"]))
    (d__law_contrary : Nonempty (DefAt K mg "_law_contrary" s__law_contrary ["_law_piece_here"]))
    (d__law_take : Nonempty (DefAt K mg "_law_take" s__law_take ["_law_bag_here", "_law_many"]))
    (d__law_pick : Nonempty (DefAt K mg "_law_pick" s__law_pick ["_law_bag_here", "_law_things"]))
    (d__law_piece : Nonempty (DefAt K mg "_law_piece" s__law_piece ["_law_bag_here", "_law_n", "_law_m"]))
    (d__law_drawn_pieces : Nonempty (DefAt K mg "_law_drawn_pieces" s__law_drawn_pieces ["_law_bag_here", "_law_many"]))
    (d__law_heard : Nonempty (DefAt K mg "_law_heard" s__law_heard ["_law_thing"]))
    (d__law_odd : Nonempty (DefAt K mg "_law_odd" s__law_odd ["_law_bag_here", "_law_name"]))
    (d__law_handed : Nonempty (DefAt K mg "_law_handed" s__law_handed ["_law_bag_here", "_law_some"]))
    (d__law_spoilt : Nonempty (DefAt K mg "_law_spoilt" s__law_spoilt ["_law_bag_here", "_law_pieces", "_law_odd_here"]))
    (d_law : ∃ t : DefAt K mg "law" s_law ["_law_script"], ∀ (s : Shared) (v : Value), BindsTo s t.fd ⟨[v], []⟩ [("_law_script", v)])
    (c_Heap : ∃ C : Addr, PySem.W.nsIn K mainGlobals "Heap" = some (some (.ref C)) ∧ SlX.SCls K C ∧ SlotAt K C "kept_pieces" 0 ∧ ObjC K C ∧ (∃ t : InAt K "__contains__" "Heap.__contains__" s_Heap___contains__ ["self", "thing"], Meth K C "__contains__" t.f) ∧ (∃ t : InAtD K "__init__" "Heap.__init__" s_Heap___init__ ["self", "pieces"], Mk K C t.f) ∧ (∃ t : InAt K "__len__" "Heap.__len__" s_Heap___len__ ["self"], Meth K C "__len__" t.f) ∧ (∃ t : InAt K "is_order" "Heap.is_order" s_Heap_is_order ["self", "thing"], Meth K C "is_order" t.f) ∧ (∃ t : InAt K "pieces_of" "Heap.pieces_of" s_Heap_pieces_of ["self", "ribbon"], Meth K C "pieces_of" t.f))
    (n_abs : PySem.W.nsIn K mainGlobals "abs" = some none)
    (n_all : PySem.W.nsIn K mainGlobals "all" = some none)
    (n_bool : PySem.W.nsIn K mainGlobals "bool" = some none)
    (n_int : PySem.W.nsIn K mainGlobals "int" = some none)
    (n_isinstance : PySem.W.nsIn K mainGlobals "isinstance" = some none)
    (n_len : PySem.W.nsIn K mainGlobals "len" = some none)
    (n_list : PySem.W.nsIn K mainGlobals "list" = some none)
    (n_max : PySem.W.nsIn K mainGlobals "max" = some none)
    (n_range : PySem.W.nsIn K mainGlobals "range" = some none)
    (n_repr : PySem.W.nsIn K mainGlobals "repr" = some none)
    (n_sorted : PySem.W.nsIn K mainGlobals "sorted" = some none)
    (n_str : PySem.W.nsIn K mainGlobals "str" = some none)
    (n_tuple : PySem.W.nsIn K mainGlobals "tuple" = some none)
    (k_SIDES : ∃ p : Addr, mg "SIDES" = some (.ref p) ∧ ∀ B G, Dat K B G (.ref p) c_SIDES)
    (x_all : ∃ C_RibbonError C_Wrong : Addr, mg "RibbonError" = some (.ref C_RibbonError) ∧ mg "Wrong" = some (.ref C_Wrong) ∧ ExcAll l.prog w K mg C_Wrong "Wrong" "place" "place" ∧ PySem.W.exmOne K (.ref C_Wrong) (.ref C_RibbonError) = some true ∧ PySem.W.findIn K (.ref C_Wrong) "place" = some none ∧ PySem.W.kitOne K (.ref C_Wrong) (.ref C_Wrong) = some true)
    : LawT l w K 8 63 "_law_script" mg fa h := by
  obtain ⟨t_is_integer⟩ := d_is_integer
  obtain ⟨t_is_count⟩ := d_is_count
  obtain ⟨t_is_piece⟩ := d_is_piece
  obtain ⟨t_are_pieces⟩ := d_are_pieces
  obtain ⟨t_touch⟩ := d_touch
  obtain ⟨t_with_levels⟩ := d_with_levels
  obtain ⟨t_place_of_undone⟩ := d_place_of_undone
  obtain ⟨t_without_undone⟩ := d_without_undone
  obtain ⟨t_in_order⟩ := d_in_order
  obtain ⟨t_is_side⟩ := d_is_side
  obtain ⟨t__law_alike⟩ := d__law_alike
  obtain ⟨t__law_is_piece⟩ := d__law_is_piece
  obtain ⟨t__law_are_pieces⟩ := d__law_are_pieces
  obtain ⟨t__law_bag⟩ := d__law_bag
  obtain ⟨t__law_contrary⟩ := d__law_contrary
  obtain ⟨t__law_take⟩ := d__law_take
  obtain ⟨t__law_pick⟩ := d__law_pick
  obtain ⟨t__law_piece⟩ := d__law_piece
  obtain ⟨t__law_drawn_pieces⟩ := d__law_drawn_pieces
  obtain ⟨t__law_heard⟩ := d__law_heard
  obtain ⟨t__law_odd⟩ := d__law_odd
  obtain ⟨t__law_handed⟩ := d__law_handed
  obtain ⟨t__law_spoilt⟩ := d__law_spoilt
  obtain ⟨t_law, hb⟩ := d_law
  obtain ⟨C_Heap, vg_Heap, vc_Heap, vs_Heap_kept_pieces, vob_Heap, ⟨vi_Heap___contains__, vm_Heap___contains__⟩, ⟨vi_Heap___init__, vmk_Heap⟩, ⟨vi_Heap___len__, vm_Heap___len__⟩, ⟨vi_Heap_is_order, vm_Heap_is_order⟩, ⟨vi_Heap_pieces_of, vm_Heap_pieces_of⟩⟩ := c_Heap
  obtain ⟨va_SIDES, vg_SIDES, vd_SIDES⟩ := k_SIDES
  obtain ⟨C_RibbonError, C_Wrong, vaRibbonError, vaWrong, vxWrong, vmWrong, vnWrong_place, vkWrong_Wrong⟩ := x_all
  have e := hfa.symm.trans t_law.at_
  have e : fa = t_law.f := by injection e with e; injection e
  subst e
  let T : Top K mg (fun n => match n with | 5 => C_Heap | 20 => C_RibbonError | 21 => C_Wrong | _ => 0) := { f_is_integer := t_is_integer, f_is_count := t_is_count, f_is_piece := t_is_piece, i_Heap___contains__ := vi_Heap___contains__, f_are_pieces := t_are_pieces, f_touch := t_touch, f_with_levels := t_with_levels, f_place_of_undone := t_place_of_undone, f_without_undone := t_without_undone, f_in_order := t_in_order, i_Heap___init__ := vi_Heap___init__, i_Heap___len__ := vi_Heap___len__, i_Heap_is_order := vi_Heap_is_order, f_is_side := t_is_side, i_Heap_pieces_of := vi_Heap_pieces_of, f__law_alike := t__law_alike, f__law_is_piece := t__law_is_piece, f__law_are_pieces := t__law_are_pieces, f__law_bag := t__law_bag, f__law_contrary := t__law_contrary, f__law_take := t__law_take, f__law_pick := t__law_pick, f__law_piece := t__law_piece, f__law_drawn_pieces := t__law_drawn_pieces, f__law_heard := t__law_heard, f__law_odd := t__law_odd, f__law_handed := t__law_handed, f__law_spoilt := t__law_spoilt, f_law := t_law, c_Heap := vc_Heap, g_Heap := (PySem.W.mg_of X G vg_Heap), s_Heap_kept_pieces := vs_Heap_kept_pieces, ob_Heap := vob_Heap, mk_Heap := vmk_Heap, m_Heap___contains__ := vm_Heap___contains__, m_Heap___len__ := vm_Heap___len__, m_Heap_is_order := vm_Heap_is_order, m_Heap_pieces_of := vm_Heap_pieces_of, ob_all := (fun c1 h => by simp only [List.mem_cons, List.not_mem_nil, or_false] at h; rcases h with rfl <;> first | exact vob_Heap), n_abs := (PySem.W.mg_none_of X G n_abs), n_all := (PySem.W.mg_none_of X G n_all), n_bool := (PySem.W.mg_none_of X G n_bool), n_int := (PySem.W.mg_none_of X G n_int), n_isinstance := (PySem.W.mg_none_of X G n_isinstance), n_len := (PySem.W.mg_none_of X G n_len), n_list := (PySem.W.mg_none_of X G n_list), n_max := (PySem.W.mg_none_of X G n_max), n_range := (PySem.W.mg_none_of X G n_range), n_repr := (PySem.W.mg_none_of X G n_repr), n_sorted := (PySem.W.mg_none_of X G n_sorted), n_str := (PySem.W.mg_none_of X G n_str), n_tuple := (PySem.W.mg_none_of X G n_tuple), a_SIDES := va_SIDES, g_SIDES := vg_SIDES, d_SIDES := vd_SIDES }
  have hx : ∀ base : Heap, (∀ p ∈ ([] : List (Addr × Addr)), LamX.TabB base mg p.1 p.2) → ∃ TX : TopX l.prog w K mg base (fun n => match n with | 5 => C_Heap | 20 => C_RibbonError | 21 => C_Wrong | _ => 0) T, (tbs TX).map (·.1) = [] := fun base hb => by
    obtain ⟨e_Wrong⟩ := vxWrong.f base
    exact ⟨{ g_RibbonError := vaRibbonError, e_Wrong := e_Wrong, ec_Wrong := vxWrong.ec, xf_Wrong := vxWrong.xf, exm_Wrong := vmWrong, nf_Wrong_place := vnWrong_place, ki_Wrong_Wrong := vkWrong_Wrong }, rfl⟩
  refine ⟨t_law.fd, [], spLaw K [], (fun _ h => nomatch h), (fun _ h => nomatch h), (fun _ h => nomatch h), hb, ?_, ?_⟩
  · intro H a ns hl _ hT hS
    exact ⟨a, ns, rfl, hS, hl, (fun t ht => nomatch ht), fun _ => rfl⟩
  · intro base _ _ hb
    obtain ⟨TX, hTX⟩ := hx base hb
    have z := ok_law (P := l.prog) (w := w) (base := base) T TX
    rw [hTX] at z
    exact z
end My
open PySem PySem.W PyProof.Rows in
set_option maxRecDepth 100000 in
set_option maxHeartbeats 0 in
theorem PySem.Challenge.cw_poleribbons_k61_heaps_refused_holds : PySem.Challenge.rw_poleribbons_k61_heaps_refused.Holds := by
  refine My.early.h (My.Wrap.mk ?_)
  unfold My.early
  dsimp only
  k_fill
  refine DL.walk_gT (l := PySem.Challenge.rw_poleribbons_k61_heaps_refused) (n := 63) (k := 8) (x := "_law_script") rfl (by decide) rfl ⟨rfl, by decide, by decide⟩ (fun w h Y => PySem.W.kIn_of Y) ?F
  case F =>
    as_aux_lemma =>
      intro w mg fa h Y KX G hmg
      replace hmg : mg "law" = some (.ref fa) := hmg
      refine' My.fin KX G hmg ?d_is_integer ?d_is_count ?d_is_piece ?d_are_pieces ?d_touch ?d_with_levels ?d_place_of_undone ?d_without_undone ?d_in_order ?d_is_side ?d__law_alike ?d__law_is_piece ?d__law_are_pieces ?d__law_bag ?d__law_contrary ?d__law_take ?d__law_pick ?d__law_piece ?d__law_drawn_pieces ?d__law_heard ?d__law_odd ?d__law_handed ?d__law_spoilt ?d_law ?c_Heap ?n_abs ?n_all ?n_bool ?n_int ?n_isinstance ?n_len ?n_list ?n_max ?n_range ?n_repr ?n_sorted ?n_str ?n_tuple ?k_SIDES ?x_all
      case d_is_integer =>
        refine' DL.ex_def KX G (fun _ _ _ _ _ _ us hl => match us, hl with | [_], _ => rfl) ?a ?l ?c ?k
        (case a => k_is); (case l => k_is); (case c => k_is); (case k => k_is)
      case d_is_count =>
        refine' DL.ex_def KX G (fun _ _ _ _ _ _ us hl => match us, hl with | [_], _ => rfl) ?a ?l ?c ?k
        (case a => k_is); (case l => k_is); (case c => k_is); (case k => k_is)
      case d_is_piece =>
        refine' DL.ex_def KX G (fun _ _ _ _ _ _ us hl => match us, hl with | [_], _ => rfl) ?a ?l ?c ?k
        (case a => k_is); (case l => k_is); (case c => k_is); (case k => k_is)
      case d_are_pieces =>
        refine' DL.ex_def KX G (fun _ _ _ _ _ _ us hl => match us, hl with | [_], _ => rfl) ?a ?l ?c ?k
        (case a => k_is); (case l => k_is); (case c => k_is); (case k => k_is)
      case d_touch =>
        refine' DL.ex_def KX G (fun _ _ _ _ _ _ us hl => match us, hl with | [_, _], _ => rfl) ?a ?l ?c ?k
        (case a => k_is); (case l => k_is); (case c => k_is); (case k => k_is)
      case d_with_levels =>
        refine' DL.ex_def KX G (fun _ _ _ _ _ _ us hl => match us, hl with | [_], _ => rfl) ?a ?l ?c ?k
        (case a => k_is); (case l => k_is); (case c => k_is); (case k => k_is)
      case d_place_of_undone =>
        refine' DL.ex_def KX G (fun _ _ _ _ _ _ us hl => match us, hl with | [_, _], _ => rfl) ?a ?l ?c ?k
        (case a => k_is); (case l => k_is); (case c => k_is); (case k => k_is)
      case d_without_undone =>
        refine' DL.ex_def KX G (fun _ _ _ _ _ _ us hl => match us, hl with | [_], _ => rfl) ?a ?l ?c ?k
        (case a => k_is); (case l => k_is); (case c => k_is); (case k => k_is)
      case d_in_order =>
        refine' DL.ex_def KX G (fun _ _ _ _ _ _ us hl => match us, hl with | [_], _ => rfl) ?a ?l ?c ?k
        (case a => k_is); (case l => k_is); (case c => k_is); (case k => k_is)
      case d_is_side =>
        refine' DL.ex_def KX G (fun _ _ _ _ _ _ us hl => match us, hl with | [_], _ => rfl) ?a ?l ?c ?k
        (case a => k_is); (case l => k_is); (case c => k_is); (case k => k_is)
      case d__law_alike =>
        refine' DL.ex_def KX G (fun _ _ _ _ _ _ us hl => match us, hl with | [_, _], _ => rfl) ?a ?l ?c ?k
        (case a => k_is); (case l => k_is); (case c => k_is); (case k => k_is)
      case d__law_is_piece =>
        refine' DL.ex_def KX G (fun _ _ _ _ _ _ us hl => match us, hl with | [_], _ => rfl) ?a ?l ?c ?k
        (case a => k_is); (case l => k_is); (case c => k_is); (case k => k_is)
      case d__law_are_pieces =>
        refine' DL.ex_def KX G (fun _ _ _ _ _ _ us hl => match us, hl with | [_], _ => rfl) ?a ?l ?c ?k
        (case a => k_is); (case l => k_is); (case c => k_is); (case k => k_is)
      case d__law_bag =>
        refine' DL.ex_def KX G (fun _ _ _ _ _ _ us hl => match us, hl with | [_], _ => rfl) ?a ?l ?c ?k
        (case a => k_is); (case l => k_is); (case c => k_is); (case k => k_is)
      case d__law_contrary =>
        refine' DL.ex_def KX G (fun _ _ _ _ _ _ us hl => match us, hl with | [_], _ => rfl) ?a ?l ?c ?k
        (case a => k_is); (case l => k_is); (case c => k_is); (case k => k_is)
      case d__law_take =>
        refine' DL.ex_def KX G (fun _ _ _ _ _ _ us hl => match us, hl with | [_, _], _ => rfl) ?a ?l ?c ?k
        (case a => k_is); (case l => k_is); (case c => k_is); (case k => k_is)
      case d__law_pick =>
        refine' DL.ex_def KX G (fun _ _ _ _ _ _ us hl => match us, hl with | [_, _], _ => rfl) ?a ?l ?c ?k
        (case a => k_is); (case l => k_is); (case c => k_is); (case k => k_is)
      case d__law_piece =>
        refine' DL.ex_def KX G (fun _ _ _ _ _ _ us hl => match us, hl with | [_, _, _], _ => rfl) ?a ?l ?c ?k
        (case a => k_is); (case l => k_is); (case c => k_is); (case k => k_is)
      case d__law_drawn_pieces =>
        refine' DL.ex_def KX G (fun _ _ _ _ _ _ us hl => match us, hl with | [_, _], _ => rfl) ?a ?l ?c ?k
        (case a => k_is); (case l => k_is); (case c => k_is); (case k => k_is)
      case d__law_heard =>
        refine' DL.ex_def KX G (fun _ _ _ _ _ _ us hl => match us, hl with | [_], _ => rfl) ?a ?l ?c ?k
        (case a => k_is); (case l => k_is); (case c => k_is); (case k => k_is)
      case d__law_odd =>
        refine' DL.ex_def KX G (fun _ _ _ _ _ _ us hl => match us, hl with | [_, _], _ => rfl) ?a ?l ?c ?k
        (case a => k_is); (case l => k_is); (case c => k_is); (case k => k_is)
      case d__law_handed =>
        refine' DL.ex_def KX G (fun _ _ _ _ _ _ us hl => match us, hl with | [_, _], _ => rfl) ?a ?l ?c ?k
        (case a => k_is); (case l => k_is); (case c => k_is); (case k => k_is)
      case d__law_spoilt =>
        refine' DL.ex_def KX G (fun _ _ _ _ _ _ us hl => match us, hl with | [_, _, _], _ => rfl) ?a ?l ?c ?k
        (case a => k_is); (case l => k_is); (case c => k_is); (case k => k_is)
      case d_law =>
        refine' DL.ex_law KX G (fun _ _ _ _ _ _ us hl => match us, hl with | [_], _ => rfl) ?a ?l ?c ?k
        (case a => k_is); (case l => k_is); (case c => k_is); (case k => k_is)
      case c_Heap =>
        refine' My.mkc_Heap ?aC ?c ?s_Heap_kept_pieces ?ob ?i_Heap___contains__ ?i_Heap___init__ ?i_Heap___len__ ?i_Heap_is_order ?i_Heap_pieces_of
        case aC =>
          k_is
        case c =>
          exact ⟨by k_is, by k_is, by k_is, by k_is⟩
        case s_Heap_kept_pieces =>
          refine' DL.ex_slot ?a ?g ?tk ?ty ?ix ?lt
          (case a => k_is); (case g => k_is); (case tk => k_is); (case ty => k_is); (case ix => k_is); (case lt => decide)
        case ob =>
          exact DL.objB_ok (by kernel_rfl)
        case i_Heap___contains__ =>
          refine' DL.ex_meth (fun _ _ _ _ _ _ us hl => match us, hl with | [_, _], _ => rfl) ?a ?i ?l ?c ?k
          (case a => k_is); (case i => k_is); (case l => k_is); (case c => k_is); (case k => k_is)
        case i_Heap___init__ =>
          refine' DL.ex_initD (n := 0) (m := 1) (fun _ _ _ _ _ _ _ us its hl hi => match us, its, hl, hi with | [_, _], [_], _, _ => ⟨_, rfl, rfl⟩) (fun _ _ _ _ _ _ _ us its hl hi => match us, its, hl, hi with | [_], [_], _, _ => ⟨_, rfl, rfl⟩) rfl ?a ?i ?l ?c ?k ?lT ?dT ?le ?ce ?de ?mk ?kc
          (case a => k_is); (case i => k_is); (case l => k_is); (case c => k_is); (case k => k_is); (case lT => k_is); (case dT => rfl); (case le => k_is); (case ce => rfl); (case de => rfl); (case mk => k_is); (case kc => k_is)
        case i_Heap___len__ =>
          refine' DL.ex_meth (fun _ _ _ _ _ _ us hl => match us, hl with | [_], _ => rfl) ?a ?i ?l ?c ?k
          (case a => k_is); (case i => k_is); (case l => k_is); (case c => k_is); (case k => k_is)
        case i_Heap_is_order =>
          refine' DL.ex_meth (fun _ _ _ _ _ _ us hl => match us, hl with | [_, _], _ => rfl) ?a ?i ?l ?c ?k
          (case a => k_is); (case i => k_is); (case l => k_is); (case c => k_is); (case k => k_is)
        case i_Heap_pieces_of =>
          refine' DL.ex_meth (fun _ _ _ _ _ _ us hl => match us, hl with | [_, _], _ => rfl) ?a ?i ?l ?c ?k
          (case a => k_is); (case i => k_is); (case l => k_is); (case c => k_is); (case k => k_is)
      case n_abs =>
        k_is
      case n_all =>
        k_is
      case n_bool =>
        k_is
      case n_int =>
        k_is
      case n_isinstance =>
        k_is
      case n_len =>
        k_is
      case n_list =>
        k_is
      case n_max =>
        k_is
      case n_range =>
        k_is
      case n_repr =>
        k_is
      case n_sorted =>
        k_is
      case n_str =>
        k_is
      case n_tuple =>
        k_is
      case k_SIDES =>
        refine' DL.ex_tupS KX G ?a ?l ?c ?d ?z ?v
        (case a => k_is); (case l => k_is); (case c => rfl); (case d => rfl); (case z => decide); (case v => rfl)
      case x_all =>
        refine' My.mkx ?aRibbonError ?aWrong ?xWrong ?mWrong ?nWrong_place ?kWrong_Wrong
        (case aRibbonError => exact PySem.W.mg_of KX G (by k_is))
        (case aWrong => exact PySem.W.mg_of KX G (by k_is))
        case xWrong =>
          refine' DL.ex_exc (st := My.sx_Wrong) KX G ?zqa ?zqi ?zqty ?zqlk ?zqhcd ?zqlC ?zqhr ?zqsa ?zqexC ?zqtyC ?zqkC ?zqlcc ?zqlcd ?zqhv ?zqhf ?zqhc ?zqmr ?zqsup ?zqini ?zqsubV ?zqany ?zqnofld ?zqtop ?zqhg ?zqhk ?zqhd ?zqha ?zqhn ?zqht ?zqhm ?zqhb ?zqS ?zqhp ?zqhar ?zqhks ?zqhpd ?zqhpc ?zqhps ?zqhe ?zqhs0 ?zqhs1 ?zqb
          (case zqa => k_is); (case zqi => k_is); (case zqty => k_is); (case zqlk => k_is); (case zqhcd => k_is); (case zqlC => k_is)
          (case zqhr => kernel_rfl); (case zqsa => k_is); (case zqexC => k_is); (case zqtyC => k_is); (case zqkC => k_is); (case zqlcc => k_is); (case zqlcd => k_is); (case zqhv => rfl); (case zqhf => kernel_rfl); (case zqhc => k_is); (case zqmr => k_is); (case zqsup => k_is); (case zqini => kernel_rfl); (case zqsubV => k_is); (case zqany => k_is); (case zqnofld => k_is); (case zqtop => kernel_rfl)
          (case zqhg => k_is); (case zqhk => k_is); (case zqhd => k_is); (case zqha => k_is); (case zqhn => k_is); (case zqht => k_is); (case zqhm => k_is)
          (case zqhb => rfl); (case zqS => exact NdefX.nscope_by (by decide +kernel)); (case zqhp => rfl); (case zqhar => rfl); (case zqhks => rfl); (case zqhpd => decide); (case zqhpc => decide); (case zqhps => decide); (case zqhe => exact fun _ _ _ _ => rfl); (case zqhs0 => exact fun _ _ _ _ => rfl); (case zqhs1 => exact fun _ _ _ _ => rfl)
          (case zqb => exact fun us hl => match us, hl with | [_, _], _ => rfl)
        (case mWrong => kernel_rfl)
        (case nWrong_place => k_is)
        (case kWrong_Wrong => kernel_rfl)
