import PyProof.Rows.All
import Wide.All
import OpenK.AllK
import Wide.FinOn
import HandS.ForMost
import HandS.Exc
import HandS.Evl
import HandS.Slots
import HandS.Lambda
import HandS.EndBits
import PyProof.ReprRoads
import PyProof.StrLawsRepr
import HandS.Wide
import HandS.IsInst
import HandS.Style
import HandS.TupAny
import HandS.Star
import HandS.NoneIn
import HandS.SlotsOwn
import PyProof.InstNe
import HandS.Iter
import HandS.SetFor
import HandS.Strs
import HandS.Zip
import HandS.Conv
import KE.GoesMore
import HandS.Deep
import HandS.OwnEq
import HandS.DictComp
import PyProof.DictFindH
import HandS.DictEq
import HandS.DeepEq
import KE.SortData
import HandS.TupLen
import KE.KDictCopyH
import KE.KDictSum
import KE.KDictPairs
import HandS.SetBool
import HandS.TupSets
import HandS.SetKeys
import KE.KDictDisplayH
import KE.KEqDict
import KE.KRevSl
import HandS.Replace
import HandS.ReplaceLit
import HandS.ReplaceDef
import HandS.ReplaceList
import HandS.Text
import KE.KExcSuper
import KE.KSuper
import HandS.ExcInit
import HandS.Nested
import HandS.WordsExc
import KE.KExcIs
import HandS.ExcIs
import HandS.ExcField
import KE.KLam
import HandS.EndTab
import PyProof.IsInstance
import KE.KEqNest
import HandS.ListItems
import HandS.Defaults
import HandS.OwnIter
import HandS.IterNext
import PyProof.TupleOfGen
import KE.KOpsOwn
import KE.DataMinMax
import PyProof.Rows.RowBridgeK
import OpenK.KMeth
import PyProof.IsRules
import PyProof.EqAt
import PyProof.ReprReads
import PyProof.ReprNest
import HandS.IntHex
import PyProof.CollectStr
import KE.DataFind
import PyProof.EqKinds
import PyProof.FactsAll.dict
import KE.KDictWalk
import HandS.DictTup
import HandS.IterVal
import KE.KOwnIter
import HandS.Comp
import HandS.WideBits
import HandS.Finally
import HandS.Set
import PyProof.SetRoads
import HandS.More
import HandS.Dict
import PyProof.Transfer
import KE.KDictItemsList
import PySem.Challenge.RW_poleribbons_k70_told_back_by_all_words
import KE.OsRunLaw
set_option Elab.async false
set_option linter.all false
set_option maxRecDepth 100000
set_option maxHeartbeats 8000000
namespace My
open PySem PySem.W in
def Kt (K : Params → Frag) (ts : List Addr) : Params → Frag := fun P => K P ++ ts.map fun a => (a, tabObj #[])
def At (as ts : List Addr) : List Addr := as ++ ts
structure Wrap (X : Prop) : Prop where
  get : X
structure Early (A : Prop) : Type where
  X : Prop
  h : Wrap X → A
end My
open PySem PySem.W in
local macro_rules | `(tactic| o_head (kmHook $K $as $e $ts)) => `(tactic| o_headL (kHook (My.Kt $K $ts) (My.At $as $ts) (fun _ => by kernel_rfl)))
open PySem PySem.W in
local macro_rules | `(tactic| o_head (kHook $K $as $e)) => `(tactic| o_headL (kHook $K $as $e))
open Lean PySem PySem.W in
local macro_rules | `(tactic| refine $t:term) => do
  let r := t.raw
  unless r.isOfKind ``Lean.Parser.Term.app do Macro.throwUnsupported
  let as := r[1].getArgs
  let some l := as.back? | Macro.throwUnsupported
  unless l.isOfKind ``Lean.Parser.Term.syntheticHole && l[1].isIdent && l[1].getId.eraseMacroScopes == `hc do Macro.throwUnsupported
  let g ← `((My.Wrap.get (by assumption)))
  let n : TSyntax `term := ⟨r.setArg 1 (r[1].setArgs (as.pop.push g))⟩
  `(tactic| refine $n)
open PySem PySem.W PyProof.Rows in
set_option Elab.async false in
set_option maxRecDepth 100000 in
set_option maxHeartbeats 0 in
noncomputable def My.early : My.Early PySem.Challenge.rw_poleribbons_k70_told_back_by_all_words.Holds := by
  refine' My.Early.mk _ fun h => ?Y
  case Y => w_on; o_law; k_head; (case hw => w_witness2)
namespace DL
open PySem PySem.Spec PyProof.Rows L2 Evl
/-- the bag's place, the classes' places -/
structure Bx where
  b : Addr
  L : Addr
  ct : Nat → Addr
  tb : List (Addr × Str) := []
  up : Option (Hp × Hp) := none
/-- nothing that moves stands there -/
def Bx.st (B : Bx) (p : Addr) : Prop := p ≠ B.b ∧ ∀ t ∈ B.tb, p ≠ t.1
/-- .. and it is younger than the anchor -/
def Bx.nb (B : Bx) (p : Addr) : Prop := B.st p ∧ ∀ u, B.up = some u → u.2 p = none
inductive D where
  | non | bl (b : Bool) | int (i : Int) | str (x : Str) | lst (xs : List D) | tup (xs : List D)
  | dic (ks : List (D × D)) | obj (c : Nat) (fs : List D) | bag | ktup (xs : List D)
def embK : Key → D
  | .inl i => .int i
  | .inr x => .str x
def embT (k : List Key) : D := .tup (k.map embK)
mutual
inductive Dat (K : PySem.W.Frag) (B : Bx) (G : Hp) : V → D → Prop
  | non : Dat K B G .non .non
  | bl (b : Bool) : Dat K B G (.bl b) (.bl b)
  | int (i : Int) : Dat K B G (.int i) (.int i)
  | str (x : Str) : Dat K B G (.str x) (.str x)
  | lst {a : Addr} {xs : List V} {ds : List D} : G a = some (.lst xs) → Dats K B G xs ds → Dat K B G (.ref a) (.lst ds)
  | tup {a : Addr} {xs : List V} {ds : List D} : G a = some (.tup xs) → Dats K B G xs ds → Dat K B G (.ref a) (.tup ds)
  | ktup {a : Addr} {xs : List V} {ds : List D} : SqT K G a xs → Dats K B G xs ds → Dat K B G (.ref a) (.ktup ds)
  | dK {a : Addr} {od : Obj} {kvs : List (Key × V)} {ds : List (D × D)} : G a = some (.frz od (.dK kvs)) → DatK K B G kvs ds → Dat K B G (.ref a) (.dic ds)
  | dT {a : Addr} {od : Obj} {kvs : List (List Key × V)} {ds : List (D × D)} : G a = some (.frz od (.dT kvs)) → DatT K B G kvs ds → Dat K B G (.ref a) (.dic ds)
  | bag : Dat K B G (.ref B.b) .bag
  | obj {a dx : Addr} {C : Nat} {vs : List V} {fs : List D} : G a = some (SlX.SlO a (B.ct C) dx (vs.map some)) → G dx = some (.xd []) → Dats K B G vs fs → Dat K B G (.ref a) (.obj C fs)
inductive Dats (K : PySem.W.Frag) (B : Bx) (G : Hp) : List V → List D → Prop
  | nil : Dats K B G [] []
  | cons {v : V} {vs : List V} {d : D} {ds : List D} : Dat K B G v d → Dats K B G vs ds → Dats K B G (v :: vs) (d :: ds)
inductive DatK (K : PySem.W.Frag) (B : Bx) (G : Hp) : List (Key × V) → List (D × D) → Prop
  | nil : DatK K B G [] []
  | consI {i : Int} {v : V} {d : D} {vs : List (Key × V)} {ds : List (D × D)} : Dat K B G v d → DatK K B G vs ds → DatK K B G ((.inl i, v) :: vs) ((.int i, d) :: ds)
  | consS {x : Str} {v : V} {d : D} {vs : List (Key × V)} {ds : List (D × D)} : Dat K B G v d → DatK K B G vs ds → DatK K B G ((.inr x, v) :: vs) ((.str x, d) :: ds)
inductive DatT (K : PySem.W.Frag) (B : Bx) (G : Hp) : List (List Key × V) → List (D × D) → Prop
  | nil : DatT K B G [] []
  | cons {k : List Key} {v : V} {d : D} {vs : List (List Key × V)} {ds : List (D × D)} : Dat K B G v d → DatT K B G vs ds → DatT K B G ((k, v) :: vs) ((embT k, d) :: ds)
end
section
variable {K : PySem.W.Frag} {B : Bx} {G G' : Hp}
mutual
theorem Dat.mono (e : Ex G G') : ∀ {v : V} {d : D}, Dat K B G v d → Dat K B G' v d
  | _, _, .non => .non
  | _, _, .bl b => .bl b
  | _, _, .int i => .int i
  | _, _, .str x => .str x
  | _, _, .lst h t => .lst (e _ _ h) (Dats.mono e t)
  | _, _, .tup h t => .tup (e _ _ h) (Dats.mono e t)
  | _, _, .ktup h t => .ktup (ex_t e h) (Dats.mono e t)
  | _, _, .dK h t => .dK (e _ _ h) (DatK.mono e t)
  | _, _, .dT h t => .dT (e _ _ h) (DatT.mono e t)
  | _, _, .bag => .bag
  | _, _, .obj h h2 t => .obj (e _ _ h) (e _ _ h2) (Dats.mono e t)
theorem Dats.mono (e : Ex G G') : ∀ {v : List V} {d : List D}, Dats K B G v d → Dats K B G' v d
  | _, _, .nil => .nil
  | _, _, .cons h t => .cons (Dat.mono e h) (Dats.mono e t)
theorem DatK.mono (e : Ex G G') : ∀ {v : List (Key × V)} {d : List (D × D)}, DatK K B G v d → DatK K B G' v d
  | _, _, .nil => .nil
  | _, _, .consI h t => .consI (Dat.mono e h) (DatK.mono e t)
  | _, _, .consS h t => .consS (Dat.mono e h) (DatK.mono e t)
theorem DatT.mono (e : Ex G G') : ∀ {v : List (List Key × V)} {d : List (D × D)}, DatT K B G v d → DatT K B G' v d
  | _, _, .nil => .nil
  | _, _, .cons h t => .cons (Dat.mono e h) (DatT.mono e t)
end
theorem Dats.len : ∀ {v : List V} {d : List D}, Dats K B G v d → v.length = d.length
  | _, _, .nil => rfl
  | _, _, .cons _ t => by rw [List.length_cons, List.length_cons, Dats.len t]
theorem Dats.get : ∀ {v : List V} {d : List D} {i : Nat} {x : D}, Dats K B G v d → d[i]? = some x → ∃ u, v[i]? = some u ∧ Dat K B G u x
  | _, _, _, _, .nil, e => by simp at e
  | _, _, 0, _, .cons r _, e => by simp at e; subst e; exact ⟨_, rfl, r⟩
  | _, _, i + 1, x, .cons _ t, e => by
    obtain ⟨u, h1, h2⟩ := Dats.get (i := i) (x := x) t (by simpa using e)
    exact ⟨u, by simpa using h1, h2⟩
theorem Dats.append : ∀ {v w : List V} {d e : List D}, Dats K B G v d → Dats K B G w e → Dats K B G (v ++ w) (d ++ e)
  | _, _, _, _, .nil, s => s
  | _, _, _, _, .cons r t, s => .cons r (Dats.append t s)
theorem Dats.drop : ∀ {v : List V} {d : List D} (n : Nat), Dats K B G v d → Dats K B G (v.drop n) (d.drop n)
  | _, _, 0, r => r
  | _, _, _ + 1, .nil => .nil
  | _, _, n + 1, .cons _ t => Dats.drop n t
theorem Dats.take : ∀ {v : List V} {d : List D} (n : Nat), Dats K B G v d → Dats K B G (v.take n) (d.take n)
  | _, _, 0, _ => .nil
  | _, _, _ + 1, .nil => .nil
  | _, _, n + 1, .cons r t => .cons r (Dats.take n t)
theorem Dats.rep {v : List V} {d : List D} (h : Dats K B G v d) : ∀ k : Nat, Dats K B G (List.replicate k v).flatten (List.replicate k d).flatten
  | 0 => .nil
  | k + 1 => by
    rw [List.replicate_succ, List.replicate_succ, List.flatten_cons, List.flatten_cons]
    exact h.append (Dats.rep h k)
end
/-- a tuple that is known stands there -/
theorem tx {K : PySem.W.Frag} {G H : Hp} {a : Addr} {xs : List V} (e : Ex G H) (h : G a = some (.tup xs)) : SqT K H a xs := st_of (e _ _ h)
def BagOk (K : PySem.W.Frag) (B : Bx) (G H : Hp) : Prop :=
  ∃ (a b c : Int) (ns : List Int), H B.b = some (.lst [.int a, .int b, .int c, .ref B.L]) ∧ SqL K G B.L (ns.map V.int) ∧ 0 ≤ a ∧ 0 ≤ b ∧ b < 2147483647 ∧ 0 ≤ c ∧ (∀ n ∈ ns, 0 ≤ n) ∧ ns.length ≤ 63
/-- what may be learnt where it stands: a tuple, a code object -/
def Lrn (a : Addr) (o : HO) : Prop := (∃ vs, o = .tup vs) ∨ ∃ q, o = LamX.CodeO a q
theorem nl {a : Addr} {o : HO} (h : (match o with | .tup _ => false | .ext _ => false | _ => true) = true) : ¬ Lrn a o := by
  rintro (⟨vs, rfl⟩ | ⟨q, rfl⟩)
  · cases h
  · unfold LamX.CodeO at h
    cases h
theorem nlx {a : Addr} {φ : Heap → Prop} (h : ∀ hp o, φ hp → hp.get? a = some o → o.cls ≠ .none) : ¬ Lrn a (.ext φ) := by
  rintro (⟨vs, e⟩ | ⟨q, e⟩)
  · cases e
  · unfold LamX.CodeO at e
    injection e with e
    have g : ({ objs := Array.replicate (a + 1) ({ cls := .none, data := .fields #[.none, .str q default] } : Obj) } : Heap).get? a = some ({ cls := .none, data := .fields #[.none, .str q default] } : Obj) := by
      show (match (Array.replicate (a + 1) ({ cls := .none, data := .fields #[.none, .str q default] } : Obj))[a]? with | some ⟨_, _, .freed, _⟩ => none | o => o) = _
      rw [Array.getElem?_replicate, if_pos (Nat.lt_succ_self a)]
    refine h _ _ ?_ g rfl
    rw [e]
    exact ⟨_, _, _, g, rfl, rfl⟩
/-- something that may not be learnt stands there -/
def Mu (H : Hp) (a : Addr) : Prop := ∃ o, H a = some o ∧ ¬ Lrn a o
theorem Mu.ne {H : Hp} {a : Addr} (h : Mu H a) : H a ≠ none := by
  obtain ⟨o, e, _⟩ := h
  rw [e]
  simp
/-- a table of code stands there, its code objects known -/
def TabG (G H : Hp) (P : Addr) (q : Str) : Prop := ∃ ps : Array Value, H P = some (.tbl ps) ∧ TriplesOk ps.toList ∧ ∀ (pos : Pos) (cv : Value), codeAmong pos ps.toList = some cv → ∃ c, cv = .ref c ∧ G c = some (LamX.CodeO c q)
/-- the tables of code stand; all is as it was at the anchor, or grown -/
structure Xt (B : Bx) (G H : Hp) : Prop where
  tb : ∀ t ∈ B.tb, TabG G H t.1 t.2 ∧ G t.1 = none
  ex : ∀ u, B.up = some u → Ex u.1 G
  keep : ∀ u, B.up = some u → ∀ a o, B.st a → u.2 a = some o → H a = some o
  old : ∀ u, B.up = some u → ∀ a, Mu u.2 a → G a = u.1 a
/-- no table of code -/
def noTb : HO → Bool
  | .tbl _ => false
  | _ => true
structure Jn (K : PySem.W.Frag) (B : Bx) (G H : Hp) : Prop where
  ex : Ex G H
  no : G B.b = none
  bag : BagOk K B G H
  xt : Xt B G H
/-- what is of the anchor's time and may not be learnt still stands so -/
theorem Jn.mu {K : PySem.W.Frag} {B : Bx} {G H : Hp} (j : Jn K B G H) (u : Hp × Hp) (hu : B.up = some u) (a : Addr) (m : Mu u.2 a) : Mu H a := by
  by_cases e : a = B.b
  · subst e
    obtain ⟨_, _, _, _, ho, _⟩ := j.bag
    exact ⟨_, ho, nl rfl⟩
  · by_cases e2 : ∃ t ∈ B.tb, a = t.1
    · obtain ⟨t, h, rfl⟩ := e2
      obtain ⟨⟨ps, h1, _⟩, _⟩ := j.xt.tb t h
      exact ⟨_, h1, nl rfl⟩
    · obtain ⟨o, h1, h2⟩ := m
      exact ⟨o, j.xt.keep u hu a o ⟨e, fun t h z => e2 ⟨t, h, z⟩⟩ h1, h2⟩
theorem Jn.next {K : PySem.W.Frag} {B : Bx} {G H G2 H2 : Hp} (j : Jn K B G H) (ex : Ex G G2) (hk : ∀ a o, ¬ B.nb a → H a = some o → H2 a = some o) (hg : ∀ a, ¬ B.nb a → Mu H a → G2 a = G a)
    (ht : ∀ t ∈ B.tb, (∃ ps, H t.1 = some (.tbl ps)) → H2 t.1 = H t.1 ∧ (G t.1 = none → G2 t.1 = none)) (_ : ∀ a ps, H2 a = some (.tbl ps) → ∃ ps', H a = some (.tbl ps')) : Xt B G2 H2 where
  tb := fun t h => by
    obtain ⟨⟨ps, a, b, c⟩, d⟩ := j.xt.tb t h
    obtain ⟨e1, e2⟩ := ht t h ⟨ps, a⟩
    exact ⟨⟨ps, e1.trans a, b, fun pos cv z => let ⟨c0, z1, z2⟩ := c pos cv z; ⟨c0, z1, ex _ _ z2⟩⟩, e2 d⟩
  ex := fun u h => (j.xt.ex u h).trans ex
  keep := fun u h a o s e => hk a o (fun n => by have z := n.2 u h; rw [z] at e; cases e) (j.xt.keep u h a o s e)
  old := fun u h a m => by
    rw [hg a (fun n => m.ne (n.2 u h)) (j.mu u h a m)]
    exact j.xt.old u h a m
/-- .. where one object was put -/
theorem tbUpd {H : Hp} {p : Addr} {o : HO} (ho : noTb o = true) : ∀ a ps, upd H p o a = some (.tbl ps) → ∃ ps', H a = some (.tbl ps') := fun a ps h => by
  by_cases e : a = p
  · subst e
    rw [upd_same] at h
    cases h
    cases ho
  · rw [upd_ne e] at h
    exact ⟨_, h⟩
/-- the place of an own thing is no table -/
theorem Bx.nb.tab {B : Bx} {p : Addr} (n : B.nb p) : ∀ t ∈ B.tb, t.1 ≠ p := fun t h z => n.1.2 t h z.symm
structure Gr (K : PySem.W.Frag) (B : Bx) (G H G2 H2 : Hp) : Prop where
  ex : Ex G G2
  kp : ∀ a o, B.st a → H a = some o → H2 a = some o
  j : Jn K B G2 H2
  old : ∀ a, Mu H a → G2 a = G a
section
variable {K : PySem.W.Frag} {B : Bx} {G H G2 H2 G3 H3 : Hp}
theorem Jn.at (j : Jn K B G H) : ∃ o, H B.b = some o := let ⟨_, _, _, _, h, _⟩ := j.bag; ⟨_, h⟩
theorem Gr.keep (x : Gr K B G H G2 H2) (a : Addr) (o : HO) (n : B.nb a) (h : H a = some o) : H2 a = some o := x.kp a o n.1 h
theorem Gr.refl (j : Jn K B G H) : Gr K B G H G H := ⟨Ex.refl G, fun _ _ _ h => h, j, fun _ _ => rfl⟩
theorem Gr.mu (x : Gr K B G H G2 H2) {a : Addr} (h : Mu H a) : Mu H2 a := by
  by_cases e : a = B.b
  · subst e
    obtain ⟨_, _, _, _, ho, _⟩ := x.j.bag
    exact ⟨_, ho, nl rfl⟩
  · by_cases e2 : ∃ t ∈ B.tb, a = t.1
    · obtain ⟨t, ht, rfl⟩ := e2
      obtain ⟨⟨ps, h1, _⟩, _⟩ := x.j.xt.tb t ht
      exact ⟨_, h1, nl rfl⟩
    · obtain ⟨o, q, n⟩ := h
      exact ⟨o, x.kp a o ⟨e, fun t ht z => e2 ⟨t, ht, z⟩⟩ q, n⟩
/-- what stands somewhere goes on to stand there -/
theorem Gr.stay (x : Gr K B G H G2 H2) {a : Addr} {o : HO} (h : H a = .some o) : H2 a ≠ none := by
  by_cases e : a = B.b
  · subst e
    obtain ⟨o, ho⟩ := x.j.at
    rw [ho]
    simp
  · by_cases e2 : ∃ t ∈ B.tb, a = t.1
    · obtain ⟨t, ht, rfl⟩ := e2
      obtain ⟨⟨ps, h1, _⟩, _⟩ := x.j.xt.tb t ht
      rw [h1]
      simp
    · rw [x.kp a o ⟨e, fun t ht z => e2 ⟨t, ht, z⟩⟩ h]
      simp
theorem Gr.trans (x : Gr K B G H G2 H2) (y : Gr K B G2 H2 G3 H3) : Gr K B G H G3 H3 where
  ex := x.ex.trans y.ex
  kp := fun a o n h => y.kp a o n (x.kp a o n h)
  j := y.j
  old := fun a h => by
    rw [y.old a (x.mu h), x.old a h]
/-- a new object, known from now on -/
theorem Gr.new {p : Addr} {o : HO} (j : Jn K B G H) (hp : H p = none) (ho : noTb o = true := by rfl) : Gr K B G H (upd G p o) (upd H p o) := by
  have np : G p = none := fresh_back j.ex hp
  have nb : B.b ≠ p := fun e => by obtain ⟨o, ho⟩ := j.at; rw [e, hp] at ho; cases ho
  refine ⟨Ex.new np, fun a u _ h => ?_, ⟨fun a u h => ?_, by rw [upd_ne nb]; exact j.no, ?_, j.next (Ex.new np) (fun a u _ h => by rw [upd_ne (ne_of_none h hp)]; exact h) (fun a _ h => upd_ne fun e => by subst e; exact h.ne hp) (fun t _ ⟨ps, z⟩ => have n : t.1 ≠ p := ne_of_none z hp; ⟨upd_ne n, fun g => by rw [upd_ne n]; exact g⟩) (tbUpd ho)⟩, fun a h => ?_⟩
  · rw [upd_ne (ne_of_none h hp)]; exact h
  · by_cases e : a = p
    · subst e; rw [upd_same] at h ⊢; exact h
    · rw [upd_ne e] at h ⊢; exact j.ex a u h
  · obtain ⟨a, b, c, ns, h1, h2, h3⟩ := j.bag
    exact ⟨a, b, c, ns, by rw [upd_ne nb]; exact h1, ex_l (Ex.new np) h2, h3⟩
  · exact upd_ne fun e => by subst e; exact h.ne hp
/-- a new object, not known -/
theorem Gr.new0 {p : Addr} {o : HO} (j : Jn K B G H) (hp : H p = none) (ho : noTb o = true := by rfl) : Gr K B G H G (upd H p o) := by
  have np : G p = none := fresh_back j.ex hp
  have nb : B.b ≠ p := fun e => by obtain ⟨o, ho⟩ := j.at; rw [e, hp] at ho; cases ho
  refine ⟨Ex.refl G, fun a u _ h => ?_, ⟨fun a u h => ?_, j.no, ?_, j.next (Ex.refl G) (fun a u _ h => by rw [upd_ne (ne_of_none h hp)]; exact h) (fun a _ h => rfl) (fun t _ ⟨ps, z⟩ => have n : t.1 ≠ p := ne_of_none z hp; ⟨upd_ne n, fun g => g⟩) (tbUpd ho)⟩, fun a h => rfl⟩
  · rw [upd_ne (ne_of_none h hp)]; exact h
  · rw [upd_ne (ne_of_none h np)]; exact j.ex a u h
  · obtain ⟨a, b, c, ns, h1, h2, h3⟩ := j.bag
    exact ⟨a, b, c, ns, by rw [upd_ne nb]; exact h1, h2, h3⟩
theorem notTup {a : Addr} {vs : List V} (h : Mu H a) (hp : H a = some (.tup vs)) : False := by
  obtain ⟨o, q, n⟩ := h
  rw [hp] at q
  cases q
  exact n (.inl ⟨_, rfl⟩)
/-- a tuple that stands there is known from now on -/
theorem Gr.learn {p : Addr} {vs : List V} (j : Jn K B G H) (hp : H p = some (.tup vs)) (gp : G p = none) : Gr K B G H (upd G p (.tup vs)) H := by
  have nb : B.b ≠ p := fun e => by
    obtain ⟨_, _, _, _, ho, _⟩ := j.bag
    rw [e, hp] at ho
    cases ho
  refine ⟨Ex.new gp, fun _ _ _ h => h, ⟨fun a u h => ?_, by rw [upd_ne nb]; exact j.no, ?_, j.next (Ex.new gp) (fun _ _ _ h => h) (fun a _ h => upd_ne fun e => by subst e; exact notTup h hp) (fun t _ ⟨ps, z⟩ => ⟨rfl, fun g => by rw [upd_ne fun e => by rw [e, hp] at z; cases z]; exact g⟩) (fun _ _ h => ⟨_, h⟩)⟩, fun a h => upd_ne fun e => ?_⟩
  · by_cases e : a = p
    · subst e; rw [upd_same] at h; cases h; exact hp
    · rw [upd_ne e] at h; exact j.ex a u h
  · obtain ⟨a, b, c, ns, h1, h2, h3⟩ := j.bag
    exact ⟨a, b, c, ns, h1, ex_l (Ex.new gp) h2, h3⟩
  · subst e
    exact notTup h hp
/-- an object of one's own changes -/
theorem Gr.own {p : Addr} {o : HO} (x : Gr K B G H G2 H2) (hp : H p = none) (gp : G2 p = none) (nb : B.nb p) (ho : noTb o = true := by rfl) : Gr K B G H G2 (upd H2 p o) := by
  refine ⟨x.ex, fun a u n h => ?_, ⟨fun a u h => ?_, x.j.no, ?_, x.j.next (Ex.refl _) (fun a u n h => by rw [upd_ne fun e => n (by rw [e]; exact nb)]; exact h) (fun a _ _ => rfl) (fun t h _ => ⟨upd_ne (nb.tab t h), fun g => g⟩) (tbUpd ho)⟩, x.old⟩
  · rw [upd_ne (ne_of_none h hp)]; exact x.kp a u n h
  · rw [upd_ne (ne_of_none h gp)]; exact x.j.ex a u h
  · obtain ⟨a, b, c, ns, h1, h2, h3⟩ := x.j.bag
    exact ⟨a, b, c, ns, by rw [upd_ne (Ne.symm nb.1.1)]; exact h1, h2, h3⟩
/-- an object of one's own becomes known -/
theorem Gr.frz {p : Addr} {o : HO} (x : Gr K B G H G2 H2) (hp : H p = none) (gp : G2 p = none) (nb : B.nb p) (h2 : H2 p = some o) : Gr K B G H (upd G2 p o) H2 := by
  refine ⟨x.ex.trans (Ex.new gp), x.kp, ⟨fun a u h => ?_, by rw [upd_ne (Ne.symm nb.1.1)]; exact x.j.no, ?_, x.j.next (Ex.new gp) (fun _ _ _ h => h) (fun a n _ => upd_ne fun e => n (by rw [e]; exact nb)) (fun t h _ => ⟨rfl, fun g => by rw [upd_ne (nb.tab t h)]; exact g⟩) (fun _ _ h => ⟨_, h⟩)⟩, fun a h => ?_⟩
  · by_cases e : a = p
    · subst e; rw [upd_same] at h; cases h; exact h2
    · rw [upd_ne e] at h; exact x.j.ex a u h
  · obtain ⟨a, b, c, ns, h1, h3, h4⟩ := x.j.bag
    exact ⟨a, b, c, ns, h1, ex_l (Ex.new gp) h3, h4⟩
  · rw [upd_ne fun e => by subst e; exact h.ne hp]
    exact x.old a h
end
section
variable {K : PySem.W.Frag} {B : Bx} {G H G1 L G2 H2 U : Hp} {F : List Addr}
open Classical in
/-- G, and what is known of code objects -/
noncomputable def codG (G G2 : Hp) : Hp := fun a => if ∃ q, G2 a = some (LamX.CodeO a q) then G2 a else G a
/-- behind a lending: the places F stand as they stood -/
theorem Gr.back (j : Jn K B G H) (g : Gr K B G1 L G2 H2) (ex1 : Ex G G1) (lo : ∀ a, a ∉ F → L a = H a) (nf : ∀ p ∈ F, ∃ o, H2 p = some o ∧ ∀ q, o ≠ LamX.CodeO p q) (nbF : ∀ p ∈ F, B.nb p) (gF : ∀ p ∈ F, G p = none)
    (u1 : ∀ a, a ∈ F → U a = H a) (u2 : ∀ a, a ∉ F → U a = H2 a) : Gr K B G H (codG G G2) U := by
  have cd : ∀ a q, G2 a = some (LamX.CodeO a q) → U a = some (LamX.CodeO a q) := fun a q h => by
    have h2 := g.j.ex _ _ h
    have na : a ∉ F := fun z => by
      obtain ⟨o, e, n⟩ := nf a z
      rw [e] at h2
      exact n q (Option.some.inj h2)
    rw [u2 a na]
    exact h2
  have ex : Ex G (codG G G2) := fun a o h => by
    unfold codG
    split
    · exact g.ex _ _ (ex1 _ _ h)
    · exact h
  have old : ∀ a, Mu H a → codG G G2 a = G a := fun a h => by
    unfold codG
    split
    · rename_i hq
      obtain ⟨q, e⟩ := hq
      exfalso
      have h2 := g.j.ex _ _ e
      have na : a ∉ F := fun z => by
        obtain ⟨o, e, n⟩ := nf a z
        rw [e] at h2
        exact n q (Option.some.inj h2)
      obtain ⟨o, z1, z2⟩ := h
      obtain ⟨o', z3, z4⟩ := g.mu ⟨o, (lo a na).trans z1, z2⟩
      rw [h2] at z3
      cases z3
      exact z4 (.inr ⟨q, rfl⟩)
    · rfl
  have nbb : B.b ∉ F := fun z => (nbF _ z).1.1 rfl
  refine ⟨ex, fun a o n h => ?_, ⟨fun a o h => ?_, ?_, ?_, ?_⟩, old⟩
  · by_cases ha : a ∈ F
    · rw [u1 a ha]; exact h
    · rw [u2 a ha]; exact g.kp a o n ((lo a ha).trans h)
  · unfold codG at h
    split at h
    · rename_i hq
      obtain ⟨q, e⟩ := hq
      rw [e] at h
      cases h
      exact cd a q e
    · have na : a ∉ F := fun z => by rw [gF a z] at h; cases h
      rw [u2 a na]
      exact g.j.ex _ _ (g.ex _ _ (ex1 _ _ h))
  · unfold codG
    split
    · rename_i hq
      obtain ⟨q, e⟩ := hq
      rw [g.j.no] at e
      cases e
    · exact j.no
  · obtain ⟨_, _, _, ns, _, h2, _, _, _, _, h7, h8⟩ := j.bag
    obtain ⟨a, b, c, _, h1, _, h3, h4, h5, h6, _, _⟩ := g.j.bag
    exact ⟨a, b, c, ns, by rw [u2 _ nbb]; exact h1, ex_l ex h2, h3, h4, h5, h6, h7, h8⟩
  · refine ⟨fun t h => ?_, fun u h => (j.xt.ex u h).trans ex, fun u h a o s e => ?_, fun u h a m => ?_⟩
    · obtain ⟨⟨ps, z1, z2, z3⟩, z4⟩ := g.j.xt.tb t h
      obtain ⟨_, z5⟩ := j.xt.tb t h
      have nt : t.1 ∉ F := fun z => (nbF _ z).tab t h rfl
      refine ⟨⟨ps, by rw [u2 _ nt]; exact z1, z2, fun pos cv z => ?_⟩, ?_⟩
      · obtain ⟨c, y1, y2⟩ := z3 pos cv z
        refine ⟨c, y1, ?_⟩
        unfold codG
        rw [if_pos ⟨_, y2⟩]
        exact y2
      · unfold codG
        split
        · rename_i hq
          obtain ⟨q, e⟩ := hq
          rw [z4] at e
          cases e
        · exact z5
    · have na : a ∉ F := fun z => by rw [(nbF a z).2 u h] at e; cases e
      rw [u2 a na]
      exact g.j.xt.keep u h a o s e
    · rw [old a (j.mu u h a m)]
      exact j.xt.old u h a m
theorem ncod {a : Addr} {o : HO} (h : ¬ Lrn a o) : ∀ q, o ≠ LamX.CodeO a q := fun q e => h (.inr ⟨q, e⟩)
end
inductive OD where
  | sh (d : D) | lst (xs : List OD) | dic (t : Bool) (ks : List (D × OD)) | obj (C : Nat) (xs : List OD)
mutual
inductive Own (K : PySem.W.Frag) (B : Bx) (G H : Hp) : V → OD → List Addr → Prop
  | sh {v : V} {d : D} : Dat K B G v d → Own K B G H v (.sh d) []
  | lst {p : Addr} {vs : List V} {xs : List OD} {f : List Addr} : H p = some (.lst vs) → G p = none → Owns K B G H vs xs f → Own K B G H (.ref p) (.lst xs) (p :: f)
  | dK {p : Addr} {kvs : List (Key × V)} {ks : List (D × OD)} {f : List Addr} : H p = some (.dK kvs) → G p = none → OwnK K B G H kvs ks f → Own K B G H (.ref p) (.dic false ks) (p :: f)
  | dT {p : Addr} {kvs : List (List Key × V)} {ks : List (D × OD)} {f : List Addr} : H p = some (.dT kvs) → G p = none → OwnT K B G H kvs ks f → Own K B G H (.ref p) (.dic true ks) (p :: f)
  | obj {p dx : Addr} {C : Nat} {vs : List V} {xs : List OD} {f : List Addr} : H p = some (SlX.SlO p (B.ct C) dx (vs.map some)) → H dx = some (.xd []) → G p = none → G dx = none → Owns K B G H vs xs f → Own K B G H (.ref p) (.obj C xs) (p :: dx :: f)
inductive Owns (K : PySem.W.Frag) (B : Bx) (G H : Hp) : List V → List OD → List Addr → Prop
  | nil : Owns K B G H [] [] []
  | cons {v : V} {o : OD} {f : List Addr} {vs : List V} {os : List OD} {g : List Addr} : Own K B G H v o f → Owns K B G H vs os g → Owns K B G H (v :: vs) (o :: os) (f ++ g)
inductive OwnK (K : PySem.W.Frag) (B : Bx) (G H : Hp) : List (Key × V) → List (D × OD) → List Addr → Prop
  | nil : OwnK K B G H [] [] []
  | consI {i : Int} {v : V} {o : OD} {f : List Addr} {vs : List (Key × V)} {os : List (D × OD)} {g : List Addr} : Own K B G H v o f → OwnK K B G H vs os g → OwnK K B G H ((.inl i, v) :: vs) ((.int i, o) :: os) (f ++ g)
  | consS {x : Str} {v : V} {o : OD} {f : List Addr} {vs : List (Key × V)} {os : List (D × OD)} {g : List Addr} : Own K B G H v o f → OwnK K B G H vs os g → OwnK K B G H ((.inr x, v) :: vs) ((.str x, o) :: os) (f ++ g)
inductive OwnT (K : PySem.W.Frag) (B : Bx) (G H : Hp) : List (List Key × V) → List (D × OD) → List Addr → Prop
  | nil : OwnT K B G H [] [] []
  | cons {k : List Key} {v : V} {o : OD} {f : List Addr} {vs : List (List Key × V)} {os : List (D × OD)} {g : List Addr} : Own K B G H v o f → OwnT K B G H vs os g → OwnT K B G H ((k, v) :: vs) ((embT k, o) :: os) (f ++ g)
end
section
variable {K : PySem.W.Frag} {B : Bx} {G H G2 H2 : Hp}
/-- the places of f stand as they stood -/
def Kept (G H G2 H2 : Hp) (f : List Addr) : Prop := ∀ p ∈ f, H2 p = H p ∧ G2 p = G p
theorem Kept.l {f g : List Addr} (h : Kept G H G2 H2 (f ++ g)) : Kept G H G2 H2 f := fun p hp => h p (List.mem_append_left _ hp)
theorem Kept.r {f g : List Addr} (h : Kept G H G2 H2 (f ++ g)) : Kept G H G2 H2 g := fun p hp => h p (List.mem_append_right _ hp)
theorem Kept.h {p : Addr} {f : List Addr} (h : Kept G H G2 H2 (p :: f)) : H2 p = H p ∧ G2 p = G p := h p List.mem_cons_self
theorem Kept.t {p : Addr} {f : List Addr} (h : Kept G H G2 H2 (p :: f)) : Kept G H G2 H2 f := fun q hq => h q (List.mem_cons_of_mem _ hq)
mutual
theorem Own.keep (e : Ex G G2) : ∀ {v : V} {o : OD} {f : List Addr}, Own K B G H v o f → Kept G H G2 H2 f → Own K B G2 H2 v o f
  | _, _, _, .sh h, _ => .sh (h.mono e)
  | _, _, _, .lst h g t, k => .lst (k.h.1.trans h) (k.h.2.trans g) (Owns.keep e t k.t)
  | _, _, _, .dK h g t, k => .dK (k.h.1.trans h) (k.h.2.trans g) (OwnK.keep e t k.t)
  | _, _, _, .dT h g t, k => .dT (k.h.1.trans h) (k.h.2.trans g) (OwnT.keep e t k.t)
  | _, _, _, .obj h x g gx t, k => .obj (k.h.1.trans h) (k.t.h.1.trans x) (k.h.2.trans g) (k.t.h.2.trans gx) (Owns.keep e t k.t.t)
theorem Owns.keep (e : Ex G G2) : ∀ {v : List V} {o : List OD} {f : List Addr}, Owns K B G H v o f → Kept G H G2 H2 f → Owns K B G2 H2 v o f
  | _, _, _, .nil, _ => .nil
  | _, _, _, .cons h t, k => .cons (Own.keep e h k.l) (Owns.keep e t k.r)
theorem OwnK.keep (e : Ex G G2) : ∀ {v : List (Key × V)} {o : List (D × OD)} {f : List Addr}, OwnK K B G H v o f → Kept G H G2 H2 f → OwnK K B G2 H2 v o f
  | _, _, _, .nil, _ => .nil
  | _, _, _, .consI h t, k => .consI (Own.keep e h k.l) (OwnK.keep e t k.r)
  | _, _, _, .consS h t, k => .consS (Own.keep e h k.l) (OwnK.keep e t k.r)
theorem OwnT.keep (e : Ex G G2) : ∀ {v : List (List Key × V)} {o : List (D × OD)} {f : List Addr}, OwnT K B G H v o f → Kept G H G2 H2 f → OwnT K B G2 H2 v o f
  | _, _, _, .nil, _ => .nil
  | _, _, _, .cons h t, k => .cons (Own.keep e h k.l) (OwnT.keep e t k.r)
end
/-- an own place: a list or a dict stands there, and nobody knows it -/
def Node (G H : Hp) (p : Addr) : Prop := G p = none ∧ ((∃ vs, H p = some (.lst vs)) ∨ (∃ vs, H p = some (.dK vs)) ∨ (∃ vs, H p = some (.dT vs)) ∨ (∃ C dx vs, H p = some (SlX.SlO p C dx vs)) ∨ H p = some (.xd []))
theorem slO_mu {H : Hp} {x C dx : Addr} {vs : List (Option V)} (h : H x = some (SlX.SlO x C dx vs)) : Mu H x := ⟨_, h, nlx fun hp o z g => by
  obtain ⟨sl, e, _⟩ := z
  rw [e] at g
  cases g
  simp⟩
theorem Node.at {p : Addr} (n : Node G H p) : Mu H p := by
  rcases n.2 with ⟨_, h⟩ | ⟨_, h⟩ | ⟨_, h⟩ | ⟨_, _, _, h⟩ | h
  · exact ⟨_, h, nl rfl⟩
  · exact ⟨_, h, nl rfl⟩
  · exact ⟨_, h, nl rfl⟩
  · exact slO_mu h
  · exact ⟨_, h, nl rfl⟩
mutual
theorem Own.node : ∀ {v : V} {o : OD} {f : List Addr}, Own K B G H v o f → ∀ p ∈ f, Node G H p
  | _, _, _, .sh _, p, hp => nomatch hp
  | _, _, _, .lst h g t, p, hp => (List.mem_cons.mp hp).elim (fun e => by subst e; exact ⟨g, .inl ⟨_, h⟩⟩) (Owns.node t p)
  | _, _, _, .dK h g t, p, hp => (List.mem_cons.mp hp).elim (fun e => by subst e; exact ⟨g, .inr (.inl ⟨_, h⟩)⟩) (OwnK.node t p)
  | _, _, _, .dT h g t, p, hp => (List.mem_cons.mp hp).elim (fun e => by subst e; exact ⟨g, .inr (.inr (.inl ⟨_, h⟩))⟩) (OwnT.node t p)
  | _, _, _, .obj h x g gx t, p, hp => (List.mem_cons.mp hp).elim (fun e => by subst e; exact ⟨g, .inr (.inr (.inr (.inl ⟨_, _, _, h⟩)))⟩) fun hp => (List.mem_cons.mp hp).elim (fun e => by subst e; exact ⟨gx, .inr (.inr (.inr (.inr x)))⟩) (Owns.node t p)
theorem Owns.node : ∀ {v : List V} {o : List OD} {f : List Addr}, Owns K B G H v o f → ∀ p ∈ f, Node G H p
  | _, _, _, .nil, p, hp => nomatch hp
  | _, _, _, .cons h t, p, hp => (List.mem_append.mp hp).elim (Own.node h p) (Owns.node t p)
theorem OwnK.node : ∀ {v : List (Key × V)} {o : List (D × OD)} {f : List Addr}, OwnK K B G H v o f → ∀ p ∈ f, Node G H p
  | _, _, _, .nil, p, hp => nomatch hp
  | _, _, _, .consI h t, p, hp => (List.mem_append.mp hp).elim (Own.node h p) (OwnK.node t p)
  | _, _, _, .consS h t, p, hp => (List.mem_append.mp hp).elim (Own.node h p) (OwnK.node t p)
theorem OwnT.node : ∀ {v : List (List Key × V)} {o : List (D × OD)} {f : List Addr}, OwnT K B G H v o f → ∀ p ∈ f, Node G H p
  | _, _, _, .nil, p, hp => nomatch hp
  | _, _, _, .cons h t, p, hp => (List.mem_append.mp hp).elim (Own.node h p) (OwnT.node t p)
end
mutual
def OD.toD : OD → D
  | .sh d => d
  | .lst xs => .lst (toDs xs)
  | .dic _ ks => .dic (toDk ks)
  | .obj C xs => .obj C (toDs xs)
def toDs : List OD → List D
  | [] => []
  | x :: xs => x.toD :: toDs xs
def toDk : List (D × OD) → List (D × D)
  | [] => []
  | (k, x) :: xs => (k, x.toD) :: toDk xs
end
def frzG (G H : Hp) (f : List Addr) : Hp := fun a => if a ∈ f then H a else G a
theorem frz_ex {f : List Addr} (h : ∀ p ∈ f, G p = none) : Ex G (frzG G H f) := fun a o e => by
  unfold frzG
  rw [if_neg fun z => by rw [h a z] at e; cases e]
  exact e
theorem frz_in {f : List Addr} {p : Addr} (h : p ∈ f) : frzG G H f p = H p := if_pos h
/-- the dicts at these places are locked -/
structure Lkd (H L : Hp) (f : List Addr) : Prop where
  out : ∀ p, p ∉ f → L p = H p
  lst : ∀ p vs, H p = some (.lst vs) → L p = some (.lst vs)
  dK : ∀ p vs, p ∈ f → H p = some (.dK vs) → ∃ od, L p = some (.frz od (.dK vs))
  dT : ∀ p vs, p ∈ f → H p = some (.dT vs) → ∃ od, L p = some (.frz od (.dT vs))
  tb : ∀ p ps, L p = some (.tbl ps) → H p = some (.tbl ps)
  oth : ∀ p o, H p = some o → (∀ vs, o ≠ .dK vs) → (∀ vs, o ≠ .dT vs) → L p = some o
theorem slO_dK {x C dx : Addr} {vs : List (Option V)} {ks : List (Key × V)} : SlX.SlO x C dx vs ≠ .dK ks := fun e => by
  have := congrArg (fun h : HO => match h with | .dK _ => true | _ => false) e
  simp [SlX.SlO] at this
theorem slO_dT {x C dx : Addr} {vs : List (Option V)} {ks : List (List Key × V)} : SlX.SlO x C dx vs ≠ .dT ks := fun e => by
  have := congrArg (fun h : HO => match h with | .dT _ => true | _ => false) e
  simp [SlX.SlO] at this
mutual
theorem Own.dat {L : Hp} {F : List Addr} (hF : ∀ p ∈ F, G p = none) (hL : Lkd H L F) : ∀ {v : V} {o : OD} {f : List Addr}, Own K B G H v o f → (∀ p ∈ f, p ∈ F) → Dat K B (frzG G L F) v o.toD
  | _, _, _, .sh h, _ => h.mono (frz_ex hF)
  | _, _, _, .lst h g t, k => .lst ((frz_in (k _ List.mem_cons_self)).trans (hL.lst _ _ h)) (Owns.dat hF hL t fun p hp => k p (List.mem_cons_of_mem _ hp))
  | _, _, _, .dK h g t, k => let ⟨_, e⟩ := hL.dK _ _ (k _ List.mem_cons_self) h; .dK ((frz_in (k _ List.mem_cons_self)).trans e) (OwnK.dat hF hL t fun p hp => k p (List.mem_cons_of_mem _ hp))
  | _, _, _, .dT h g t, k => let ⟨_, e⟩ := hL.dT _ _ (k _ List.mem_cons_self) h; .dT ((frz_in (k _ List.mem_cons_self)).trans e) (OwnT.dat hF hL t fun p hp => k p (List.mem_cons_of_mem _ hp))
  | _, _, _, .obj h x g gx t, k => .obj ((frz_in (k _ List.mem_cons_self)).trans (hL.oth _ _ h (fun _ => slO_dK) fun _ => slO_dT)) ((frz_in (k _ (List.mem_cons_of_mem _ List.mem_cons_self))).trans (hL.oth _ _ x (fun _ e => nomatch e) fun _ e => nomatch e)) (Owns.dat hF hL t fun p hp => k p (List.mem_cons_of_mem _ (List.mem_cons_of_mem _ hp)))
theorem Owns.dat {L : Hp} {F : List Addr} (hF : ∀ p ∈ F, G p = none) (hL : Lkd H L F) : ∀ {v : List V} {o : List OD} {f : List Addr}, Owns K B G H v o f → (∀ p ∈ f, p ∈ F) → Dats K B (frzG G L F) v (toDs o)
  | _, _, _, .nil, _ => .nil
  | _, _, _, .cons h t, k => .cons (Own.dat hF hL h fun p hp => k p (List.mem_append_left _ hp)) (Owns.dat hF hL t fun p hp => k p (List.mem_append_right _ hp))
theorem OwnK.dat {L : Hp} {F : List Addr} (hF : ∀ p ∈ F, G p = none) (hL : Lkd H L F) : ∀ {v : List (Key × V)} {o : List (D × OD)} {f : List Addr}, OwnK K B G H v o f → (∀ p ∈ f, p ∈ F) → DatK K B (frzG G L F) v (toDk o)
  | _, _, _, .nil, _ => .nil
  | _, _, _, .consI h t, k => .consI (Own.dat hF hL h fun p hp => k p (List.mem_append_left _ hp)) (OwnK.dat hF hL t fun p hp => k p (List.mem_append_right _ hp))
  | _, _, _, .consS h t, k => .consS (Own.dat hF hL h fun p hp => k p (List.mem_append_left _ hp)) (OwnK.dat hF hL t fun p hp => k p (List.mem_append_right _ hp))
theorem OwnT.dat {L : Hp} {F : List Addr} (hF : ∀ p ∈ F, G p = none) (hL : Lkd H L F) : ∀ {v : List (List Key × V)} {o : List (D × OD)} {f : List Addr}, OwnT K B G H v o f → (∀ p ∈ f, p ∈ F) → DatT K B (frzG G L F) v (toDk o)
  | _, _, _, .nil, _ => .nil
  | _, _, _, .cons h t, k => .cons (Own.dat hF hL h fun p hp => k p (List.mem_append_left _ hp)) (OwnT.dat hF hL t fun p hp => k p (List.mem_append_right _ hp))
end
/-- a list of data, all shared -/
theorem Owns.of : ∀ {vs : List V} {ds : List D}, Dats K B G vs ds → Owns K B G H vs (ds.map .sh) []
  | _, _, .nil => .nil
  | _, _, .cons h t => .cons (.sh h) (Owns.of t)
theorem toDs_sh : ∀ ds : List D, toDs (ds.map .sh) = ds
  | [] => rfl
  | d :: ds => by rw [List.map_cons, toDs, toDs_sh ds]; rfl
end
inductive SD where
  | sh (d : D) | ow (v : V) (o : OD) | nw (x : Addr) (C : Nat) (fs : List (Option D))
def FldOk (K : PySem.W.Frag) (B : Bx) (G : Hp) (vs : List (Option V)) (fs : List (Option D)) : Prop :=
  vs.length = fs.length ∧ ∀ (i : Nat) (d : D), fs[i]? = some (some d) → ∃ v, vs[i]? = some (some v) ∧ Dat K B G v d
theorem FldOk.mono {K : PySem.W.Frag} {B : Bx} {G G2 : Hp} {vs : List (Option V)} {fs : List (Option D)} (h : FldOk K B G vs fs) (e : Ex G G2) : FldOk K B G2 vs fs :=
  ⟨h.1, fun i d q => let ⟨v, a, b⟩ := h.2 i d q; ⟨v, a, b.mono e⟩⟩
/-- an instance that is being made: its fields so far -/
structure NwAt (K : PySem.W.Frag) (B : Bx) (H0 G H : Hp) (x : Addr) (C : Nat) (dx : Addr) (vs : List (Option V)) (fs : List (Option D)) : Prop where
  sl : SlX.Slt H x (B.ct C) dx vs
  dc : H dx = some (.own x) ∨ H dx = some (.xd [])
  ne : dx ≠ x
  gx : G x = none
  gd : G dx = none
  hx : H0 x = none
  hd : H0 dx = none
  bx : B.nb x
  bd : B.nb dx
  fl : FldOk K B G vs fs
theorem slt_keep {H H2 : Hp} {x C dx : Addr} {vs : List (Option V)} (h : SlX.Slt H x C dx vs) (k1 : ∀ o, H x = some o → H2 x = some o) (k2 : ∀ o, H dx = some o → H2 dx = some o) : SlX.Slt H2 x C dx vs := by
  rcases h with ⟨a, b⟩ | ⟨a, b⟩
  · exact .inl ⟨k1 _ a, b⟩
  · exact .inr ⟨k1 _ a, k2 _ b⟩
theorem NwAt.keep {K : PySem.W.Frag} {B : Bx} {H0 G H G2 H2 : Hp} {x dx : Addr} {C : Nat} {vs : List (Option V)} {fs : List (Option D)} (n : NwAt K B H0 G H x C dx vs fs) (e : Ex G G2) (k : Kept G H G2 H2 [x, dx]) : NwAt K B H0 G2 H2 x C dx vs fs := by
  have k1 := k x (by simp)
  have k2 := k dx (by simp)
  exact ⟨slt_keep n.sl (fun o z => k1.1.trans z) (fun o z => k2.1.trans z), n.dc.imp (fun z => k2.1.trans z) (fun z => k2.1.trans z), n.ne, k1.2.trans n.gx, k2.2.trans n.gd, n.hx, n.hd, n.bx, n.bd, n.fl.mono e⟩
abbrev DS := List (Option SD)
/-- what stands in a slot, and the places that are its own -/
inductive SlotOk (K : PySem.W.Frag) (B : Bx) (H0 G H : Hp) : Option V → Option SD → List Addr → Prop
  | no {ov : Option V} : SlotOk K B H0 G H ov none []
  | sh {v : V} {d : D} : Dat K B G v d → SlotOk K B H0 G H (some v) (some (.sh d)) []
  | ow {v : V} {o : OD} {f : List Addr} : Own K B G H v o f → f.Nodup → (∀ p ∈ f, H0 p = none ∧ B.nb p) → SlotOk K B H0 G H (some v) (some (.ow v o)) f
  | nw {x dx : Addr} {C : Nat} {vs : List (Option V)} {fs : List (Option D)} : NwAt K B H0 G H x C dx vs fs → SlotOk K B H0 G H (some (.ref x)) (some (.nw x C fs)) [x, dx]
section
variable {K : PySem.W.Frag} {B : Bx} {H0 G H G2 H2 : Hp} {σ : L2.St} {δ : DS} {ov : Option V} {od : Option SD} {f : List Addr}
theorem SlotOk.keep (s : SlotOk K B H0 G H ov od f) (e : Ex G G2) (k : Kept G H G2 H2 f) : SlotOk K B H0 G2 H2 ov od f := by
  cases s with
  | no => exact .no
  | sh h => exact .sh (h.mono e)
  | ow h n q => exact .ow (h.keep e k) n q
  | nw n => exact .nw (n.keep e k)
theorem SlotOk.at (s : SlotOk K B H0 G H ov od f) : ∀ p ∈ f, Mu H p ∧ B.nb p ∧ G p = none ∧ H0 p = none := by
  cases s with
  | no => exact fun p hp => nomatch hp
  | sh h => exact fun p hp => nomatch hp
  | ow h n q => exact fun p hp => ⟨(h.node p hp).at, (q p hp).2, (h.node p hp).1, (q p hp).1⟩
  | @nw x dx C vs fs n =>
    intro p hp
    rcases (show p = x ∨ p = dx by simpa using hp) with rfl | rfl
    · exact ⟨by
        rcases n.sl with ⟨q, _⟩ | ⟨q, _⟩
        · exact ⟨_, q, nl rfl⟩
        · exact slO_mu q, n.bx, n.gx, n.hx⟩
    · exact ⟨by rcases n.dc with q | q <;> exact ⟨_, q, nl rfl⟩, n.bd, n.gd, n.hd⟩
/-- all slots, by their own places -/
structure StF (K : PySem.W.Frag) (B : Bx) (H0 G H : Hp) (σ : L2.St) (δ : DS) (F : Nat → List Addr) : Prop where
  len : σ.length = δ.length
  at_ : ∀ (i : Nat) (ov : Option V) (od : Option SD), σ[i]? = some ov → δ[i]? = some od → SlotOk K B H0 G H ov od (F i)
  dj : ∀ (i j : Nat), i < σ.length → j < σ.length → i ≠ j → ∀ p ∈ F i, p ∉ F j
structure StOk (K : PySem.W.Frag) (B : Bx) (H0 G H : Hp) (σ : L2.St) (δ : DS) : Prop where
  ex : ∃ F, StF K B H0 G H σ δ F
theorem StOk.len (x : StOk K B H0 G H σ δ) : σ.length = δ.length := let ⟨_, h⟩ := x.ex; h.len
theorem StF.get {F : Nat → List Addr} (x : StF K B H0 G H σ δ F) {i : Nat} {od : Option SD} (h : δ[i]? = some od) : ∃ ov, σ[i]? = some ov ∧ SlotOk K B H0 G H ov od (F i) := by
  have hl : i < σ.length := by rw [x.len]; exact (List.getElem?_eq_some_iff.mp h).1
  exact ⟨σ[i], List.getElem?_eq_getElem hl, x.at_ i _ od (List.getElem?_eq_getElem hl) h⟩
theorem StOk.sh (x : StOk K B H0 G H σ δ) (i : Nat) (d : D) (h : δ[i]? = some (some (.sh d))) : ∃ v, σ[i]? = some (some v) ∧ Dat K B G v d := by
  obtain ⟨F, y⟩ := x.ex
  obtain ⟨ov, h1, s⟩ := y.get h
  generalize F i = f at s
  cases s with
  | sh q => exact ⟨_, h1, q⟩
theorem StOk.nw (x : StOk K B H0 G H σ δ) (i : Nat) (a : Addr) (C : Nat) (fs : List (Option D)) (h : δ[i]? = some (some (.nw a C fs))) : ∃ dx vs, σ[i]? = some (some (.ref a)) ∧ NwAt K B H0 G H a C dx vs fs := by
  obtain ⟨F, y⟩ := x.ex
  obtain ⟨ov, h1, s⟩ := y.get h
  generalize F i = f at s
  cases s with
  | nw n => exact ⟨_, _, h1, n⟩
theorem StF.ow {F : Nat → List Addr} (x : StF K B H0 G H σ δ F) {i : Nat} {v : V} {o : OD} (h : δ[i]? = some (some (.ow v o))) : σ[i]? = some (some v) ∧ Own K B G H v o (F i) ∧ (F i).Nodup ∧ ∀ p ∈ F i, H0 p = none ∧ B.nb p := by
  obtain ⟨ov, h1, s⟩ := x.get h
  generalize F i = f at s ⊢
  cases s with
  | ow a b c => exact ⟨h1, a, b, c⟩
/-- one slot changes, and what is its own -/
theorem StF.put {F : Nat → List Addr} {i : Nat} {fi : List Addr} (x : StF K B H0 G H σ δ F) (hi : i < σ.length) (e : Ex G G2) (hk : ∀ p, Mu H p → B.nb p → p ∉ F i → H2 p = H p ∧ G2 p = G p) (s : SlotOk K B H0 G2 H2 ov od fi) (hf : ∀ p ∈ fi, H p = none ∨ p ∈ F i) :
    StF K B H0 G2 H2 (σ.set i ov) (δ.set i od) (fun j => if j = i then fi else F j) where
  len := by rw [List.length_set, List.length_set]; exact x.len
  at_ := fun j uv ud h1 h2 => by
    by_cases hj : i = j
    · subst hj
      have hl : i < σ.length := by have := (List.getElem?_eq_some_iff.mp h1).1; rwa [List.length_set] at this
      rw [List.getElem?_set_self hl] at h1
      rw [List.getElem?_set_self (by rw [← x.len]; exact hl)] at h2
      cases h1
      cases h2
      rw [if_pos rfl]
      exact s
    · rw [List.getElem?_set_ne hj] at h1 h2
      rw [if_neg (Ne.symm hj)]
      have q := x.at_ j uv ud h1 h2
      have hlj : j < σ.length := (List.getElem?_eq_some_iff.mp h1).1
      refine q.keep e fun p hp => ?_
      have a := q.at p hp
      exact hk p a.1 a.2.1 (x.dj j i hlj hi (Ne.symm hj) p hp)
  dj := fun a b ha hb hab p hp hq => by
    rw [List.length_set] at ha hb
    by_cases h1 : a = i
    · rw [if_pos h1] at hp
      have h2 : b ≠ i := fun z => hab (h1.trans z.symm)
      rw [if_neg h2] at hq
      obtain ⟨ud, hud⟩ : ∃ ud, δ[b]? = some ud := ⟨δ[b]'(by rw [← x.len]; exact hb), List.getElem?_eq_getElem _⟩
      obtain ⟨uv, huv, q⟩ := x.get hud
      rcases hf p hp with z | z
      · exact (q.at p hq).1.ne z
      · exact x.dj i b (h1 ▸ ha) hb (Ne.symm h2) p z hq
    · rw [if_neg h1] at hp
      by_cases h2 : b = i
      · rw [if_pos h2] at hq
        obtain ⟨ud, hud⟩ : ∃ ud, δ[a]? = some ud := ⟨δ[a]'(by rw [← x.len]; exact ha), List.getElem?_eq_getElem _⟩
        obtain ⟨uv, huv, q⟩ := x.get hud
        rcases hf p hq with z | z
        · exact (q.at p hp).1.ne z
        · exact x.dj a i ha (h2 ▸ hb) h1 p hp z
      · rw [if_neg h2] at hq
        exact x.dj a b ha hb hab p hp hq
end
section
variable {K : PySem.W.Frag} {B : Bx} {H0 G H G2 H2 : Hp} {σ : L2.St} {δ : DS}
theorem StF.gr {F : Nat → List Addr} (x : StF K B H0 G H σ δ F) (g : Gr K B G H G2 H2) : StF K B H0 G2 H2 σ δ F where
  len := x.len
  dj := x.dj
  at_ := fun i ov od h1 h2 => (x.at_ i ov od h1 h2).keep g.ex fun p hp => by
    have a := (x.at_ i ov od h1 h2).at p hp
    refine ⟨?_, g.old p a.1⟩
    cases q : H p with
    | none => exact absurd q a.1.ne
    | some o => exact g.keep p o a.2.1 q
theorem StOk.gr (x : StOk K B H0 G H σ δ) (g : Gr K B G H G2 H2) : StOk K B H0 G2 H2 σ δ := let ⟨F, y⟩ := x.ex; ⟨F, y.gr g⟩
theorem set_out {α : Type} {l : List α} {i : Nat} {a : α} (h : ¬ i < l.length) : l.set i a = l := by
  apply List.ext_getElem?
  intro j
  by_cases hj : i = j
  · subst hj
    rw [List.getElem?_eq_none_iff.mpr (by rw [List.length_set]; omega), List.getElem?_eq_none_iff.mpr (by omega)]
  · rw [List.getElem?_set_ne hj]
theorem StOk.put0 {i : Nat} {ov : Option V} {od : Option SD} (x : StOk K B H0 G H σ δ) (s : SlotOk K B H0 G H ov od []) : StOk K B H0 G H (σ.set i ov) (δ.set i od) := by
  by_cases hi : i < σ.length
  · obtain ⟨F, y⟩ := x.ex
    exact ⟨_, y.put hi (Ex.refl G) (fun _ _ _ _ => ⟨rfl, rfl⟩) s fun p hp => nomatch hp⟩
  · rw [set_out hi, set_out (by rw [← x.len]; exact hi)]
    exact x
/-- a slot is filled with data -/
theorem StOk.set {i : Nat} {v : V} {d : D} (x : StOk K B H0 G H σ δ) (h : Dat K B G v d) : StOk K B H0 G H (σ.set i (some v)) (δ.set i (some (.sh d))) := x.put0 (.sh h)
/-- less is known of a slot -/
theorem StOk.forget {i : Nat} {o : Option V} (x : StOk K B H0 G H σ δ) : StOk K B H0 G H (σ.set i o) (δ.set i none) := x.put0 .no
/-- a slot is filled with what is new and one's own -/
theorem StOk.setO {i : Nat} {v : V} {o : OD} {f : List Addr} (x : StOk K B H0 G H σ δ) (g : Gr K B G H G2 H2) (h : Own K B G2 H2 v o f) (nd : f.Nodup) (hf : ∀ p ∈ f, H p = none ∧ H0 p = none ∧ B.nb p) : StOk K B H0 G2 H2 (σ.set i (some v)) (δ.set i (some (.ow v o))) := by
  by_cases hi : i < σ.length
  · obtain ⟨F, y⟩ := x.ex
    refine ⟨_, y.put hi g.ex (fun p h1 h2 _ => ⟨?_, g.old p h1⟩) (.ow h nd fun p hp => (hf p hp).2) fun p hp => .inl (hf p hp).1⟩
    cases q : H p with
    | none => exact absurd q h1.ne
    | some o => exact g.keep p o h2 q
  · rw [set_out hi, set_out (by rw [← x.len]; exact hi)]
    exact x.gr g
end
end DL
namespace DL
open PySem PySem.Spec PyProof.Rows L2 Evl
abbrev DE := DS → (D → Prop) → Prop
abbrev DA := DS → (List D → Prop) → Prop
abbrev DT := DS → (Bool → Prop) → Prop
structure DEnds where
  nx : DS → Prop
  rt : D → Prop
  bk : DS → Prop := fun _ => False
  ct : DS → Prop := fun _ => False
  ro : OD → Prop := fun _ => False
  rs : DS → D → Prop := fun _ _ => False
  rp : List OD → Prop := fun _ => False
abbrev DTS := DEnds → DS → Prop
abbrev DG := D → DS → (DS → Prop) → Prop
abbrev DGs := List D → DS → (DS → Prop) → Prop
def liftE (K : PySem.W.Frag) (B : Bx) (r : DE) : TE := fun σ H P => ∃ (H0 G : Hp) (δ : DS) (Q : D → Prop), Jn K B G H ∧ StOk K B H0 G H σ δ ∧ r δ Q ∧ ∀ d v G2 H2, Q d → Gr K B G H G2 H2 → Dat K B G2 v d → P v H2
/-- a new list that nobody knows -/
def liftF (K : PySem.W.Frag) (B : Bx) (r : DA) : TE := fun σ H P => ∃ (H0 G : Hp) (δ : DS) (Q : List D → Prop), Jn K B G H ∧ StOk K B H0 G H σ δ ∧ r δ Q ∧ ∀ ds p vs G2 H2, Q ds → Gr K B G H G2 H2 → H p = none → G2 p = none → H2 p = some (.lst vs) → Dats K B G2 vs ds → P (.ref p) H2
def liftA (K : PySem.W.Frag) (B : Bx) (r : DA) : TA := fun σ H P => ∃ (H0 G : Hp) (δ : DS) (Q : List D → Prop), Jn K B G H ∧ StOk K B H0 G H σ δ ∧ r δ Q ∧ ∀ ds vs G2 H2, Q ds → Gr K B G H G2 H2 → Dats K B G2 vs ds → P vs H2
def liftT (K : PySem.W.Frag) (B : Bx) (r : DT) : TT := fun σ H P => ∃ (H0 G : Hp) (δ : DS) (Q : Bool → Prop), Jn K B G H ∧ StOk K B H0 G H σ δ ∧ r δ Q ∧ ∀ b G2 H2, Q b → Gr K B G H G2 H2 → P b H2
structure Endy (K : PySem.W.Frag) (B : Bx) (G0 H0 Gc : Hp) (W : DEnds) (E : Ends) : Prop where
  nx : ∀ σ δ G H, W.nx δ → Gr K B G0 H0 G H → Ex Gc G → StOk K B H0 G H σ δ → E.nx σ H
  bk : ∀ σ δ G H, W.bk δ → Gr K B G0 H0 G H → Ex Gc G → StOk K B H0 G H σ δ → E.bk σ H
  ct : ∀ σ δ G H, W.ct δ → Gr K B G0 H0 G H → Ex Gc G → StOk K B H0 G H σ δ → E.ct σ H
  rt : ∀ d v G H, W.rt d → Gr K B G0 H0 G H → Ex Gc G → Dat K B G v d → E.rt v H
  ro : ∀ o v f G H, W.ro o → Gr K B G0 H0 G H → Ex Gc G → Own K B G H v o f → f.Nodup → (∀ p ∈ f, H0 p = none ∧ B.nb p) → E.rt v H
  rs : ∀ σ δ d v G H, W.rs δ d → Gr K B G0 H0 G H → Ex Gc G → StOk K B H0 G H σ δ → Dat K B G v d → E.rt v H
  rp : ∀ q vs os f G H, W.rp os → Gr K B G0 H0 G H → Ex Gc G → H q = some (.tup vs) → Owns K B G H vs os f → f.Nodup → (∀ p ∈ f, H0 p = none ∧ B.nb p) → E.rt (.ref q) H
theorem Endy.up {K : PySem.W.Frag} {B : Bx} {G0 H0 Gc Gd : Hp} {W : DEnds} {E : Ends} (k : Endy K B G0 H0 Gc W E) (e : Ex Gc Gd) : Endy K B G0 H0 Gd W E :=
  ⟨fun σ δ G H a b c d => k.nx σ δ G H a b (e.trans c) d, fun σ δ G H a b c d => k.bk σ δ G H a b (e.trans c) d, fun σ δ G H a b c d => k.ct σ δ G H a b (e.trans c) d, fun d v G H a b c h => k.rt d v G H a b (e.trans c) h, fun o v f G H a b c h => k.ro o v f G H a b (e.trans c) h, fun σ δ d v G H a b c h => k.rs σ δ d v G H a b (e.trans c) h, fun q vs os f G H a b c h => k.rp q vs os f G H a b (e.trans c) h⟩
def liftS (K : PySem.W.Frag) (B : Bx) (t : DTS) : TS := fun E σ H => ∃ (G0 H0 G : Hp) (δ : DS) (W : DEnds), Gr K B G0 H0 G H ∧ StOk K B H0 G H σ δ ∧ t W δ ∧ Endy K B G0 H0 G W E
/-- only these slots are stored -/
def Upd (is : List Nat) (σ σ' : L2.St) : Prop := σ'.length = σ.length ∧ ∀ j : Nat, j ∉ is → σ'[j]? = σ[j]?
theorem Upd.refl (is : List Nat) (σ : L2.St) : Upd is σ σ := ⟨rfl, fun _ _ => rfl⟩
theorem Upd.trans {is js : List Nat} {σ σ' σ2 : L2.St} (a : Upd is σ σ') (b : Upd js σ' σ2) : Upd (is ++ js) σ σ2 :=
  ⟨b.1.trans a.1, fun j hj => (b.2 j fun z => hj (List.mem_append_right _ z)).trans (a.2 j fun z => hj (List.mem_append_left _ z))⟩
theorem wipe_at (σ : L2.St) (j : Nat) : ∀ vs : List Nat, (wipe σ vs)[j]? = if j ∈ vs ∧ j < σ.length then some none else σ[j]?
  | [] => by simp [wipe]
  | v :: vs => by
    unfold wipe
    by_cases e : v = j
    · subst e
      by_cases hl : v < σ.length
      · rw [List.getElem?_set_self (by rw [wipe_length]; exact hl), if_pos ⟨by simp, hl⟩]
      · rw [List.getElem?_eq_none_iff.mpr (by rw [List.length_set, wipe_length]; omega), if_neg (fun z => hl z.2), List.getElem?_eq_none_iff.mpr (by omega)]
    · rw [List.getElem?_set_ne e, wipe_at σ j vs]
      have : (j ∈ v :: vs) ↔ (j ∈ vs) := by simp [Ne.symm e]
      simp only [this]
theorem Upd.wipe {is vs : List Nat} {σ σ' : L2.St} (a : Upd is σ σ') (h : ∀ i ∈ is, i ∈ vs) : L2.wipe σ' vs = L2.wipe σ vs := by
  apply List.ext_getElem?
  intro j
  rw [wipe_at, wipe_at, a.1]
  by_cases hj : j ∈ vs
  · by_cases hl : j < σ.length
    · rw [if_pos ⟨hj, hl⟩, if_pos ⟨hj, hl⟩]
    · rw [if_neg (fun z => hl z.2), if_neg (fun z => hl z.2), List.getElem?_eq_none_iff.mpr (by rw [a.1]; omega), List.getElem?_eq_none_iff.mpr (by omega)]
  · rw [if_neg (fun z => hj z.1), if_neg (fun z => hj z.1)]
    exact a.2 j fun z => hj (h j z)
theorem wipe_wipe (σ : L2.St) (vs : List Nat) : wipe (wipe σ vs) vs = wipe σ vs := by
  apply List.ext_getElem?
  intro j
  rw [wipe_at, wipe_at, wipe_length]
  by_cases h : j ∈ vs ∧ j < σ.length
  · simp [h]
  · simp [h]
def liftG (K : PySem.W.Frag) (B : Bx) (is : List Nat) (g : DG) : TG := fun v σ H R => ∃ (H0 G : Hp) (δ : DS) (d : D) (Q : DS → Prop), Jn K B G H ∧ StOk K B H0 G H σ δ ∧ Dat K B G v d ∧ g d δ Q ∧ ∀ σ' δ', Q δ' → StOk K B H0 G H σ' δ' → Upd is σ σ' → R σ' H
def liftGs (K : PySem.W.Frag) (B : Bx) (is : List Nat) (g : DGs) : TGs := fun vs σ H R => ∃ (H0 G : Hp) (δ : DS) (ds : List D) (Q : DS → Prop), Jn K B G H ∧ StOk K B H0 G H σ δ ∧ Dats K B G vs ds ∧ g ds δ Q ∧ ∀ σ' δ', Q δ' → StOk K B H0 G H σ' δ' → Upd is σ σ' → R σ' H
abbrev PD (X : Cx) (B : Bx) (e : Expr) (r : DE) : Prop := PE X e (liftE X.K B r)
abbrev PF (X : Cx) (B : Bx) (e : Expr) (r : DA) : Prop := PE X e (liftF X.K B r)
abbrev PAD (X : Cx) (B : Bx) (es : List Expr) (r : DA) : Prop := PA X es (liftA X.K B r)
abbrev PTD (X : Cx) (B : Bx) (e : Expr) (r : DT) : Prop := PT X e (liftT X.K B r)
abbrev PWD (X : Cx) (B : Bx) (e : Expr) (r : DT) : Prop := PW X e (liftT X.K B r)
abbrev PSD (X : Cx) (B : Bx) (st : Stmt) (t : DTS) : Prop := PS X st (liftS X.K B t)
abbrev PSsD (X : Cx) (B : Bx) (st : List Stmt) (t : DTS) : Prop := PSs X st (liftS X.K B t)
abbrev PGD (X : Cx) (B : Bx) (e : Expr) (is : List Nat) (g : DG) : Prop := PG X e (liftG X.K B is g)
abbrev PGsD (X : Cx) (B : Bx) (es : List Expr) (is : List Nat) (g : DGs) : Prop := PGs X es (liftGs X.K B is g)
theorem pe_mono {X : Cx} {e : Expr} {t t' : TE} (h : PE X e t) (m : ∀ σ H Q, t' σ H Q → t σ H Q) : PE X e t' := ⟨fun pins s σ H Q I hw => h.run pins s σ H Q I (m σ H Q hw)⟩
theorem pt_mono {X : Cx} {e : Expr} {t t' : TT} (h : PT X e t) (m : ∀ σ H Q, t' σ H Q → t σ H Q) : PT X e t' := ⟨fun pins s σ H Q I hw => h.run pins s σ H Q I (m σ H Q hw)⟩
theorem pw_mono {X : Cx} {e : Expr} {t t' : TT} (h : PW X e t) (m : ∀ σ H Q, t' σ H Q → t σ H Q) : PW X e t' := ⟨fun wh pins s σ H Q I hw => h.run wh pins s σ H Q I (m σ H Q hw)⟩
theorem pa_mono {X : Cx} {e : List Expr} {t t' : TA} (h : PA X e t) (m : ∀ σ H Q, t' σ H Q → t σ H Q) : PA X e t' := ⟨fun pos pins s σ H Q I hw => h.run pos pins s σ H Q I (m σ H Q hw)⟩
theorem ps_mono {X : Cx} {e : Stmt} {t t' : TS} (h : PS X e t) (m : ∀ E σ H, t' E σ H → t E σ H) : PS X e t' := ⟨fun pins s σ H E I hw => h.run pins s σ H E I (m E σ H hw)⟩
theorem pss_mono {X : Cx} {e : List Stmt} {t t' : TS} (h : PSs X e t) (m : ∀ E σ H, t' E σ H → t E σ H) : PSs X e t' := ⟨fun pins s σ H E I hw => h.run pins s σ H E I (m E σ H hw)⟩
theorem pg_mono {X : Cx} {e : Expr} {t t' : TG} (h : PG X e t) (m : ∀ v σ H R, t' v σ H R → t v σ H R) : PG X e t' := ⟨fun pins s σ H v u R I r hw => h.run pins s σ H v u R I r (m v σ H R hw)⟩
theorem pgs_mono {X : Cx} {e : List Expr} {t t' : TGs} (h : PGs X e t) (m : ∀ v σ H R, t' v σ H R → t v σ H R) : PGs X e t' := ⟨fun pins s σ H v u R I r hw => h.run pins s σ H v u R I r (m v σ H R hw)⟩
section
variable {X : Cx} {B : Bx} {a b e : Expr} {es : List Expr} {ra rb r : DE} {pos : Pos}
def dVar (i : Nat) : DE := fun δ Q => match δ[i]? with
  | some (some (.sh d)) => Q d
  | _ => False
def dC (d : D) : DE := fun _ Q => Q d
theorem pd_of_var {i : Nat} (h : PE X e (tVar i)) : PD X B e (dVar i) := pe_mono h fun σ H P q => by
  obtain ⟨H0, G, δ, Q, j, st, hr, k⟩ := q
  unfold dVar at hr
  cases h1 : δ[i]? with
  | none => rw [h1] at hr; exact hr.elim
  | some o =>
    cases o with
    | none => rw [h1] at hr; exact hr.elim
    | some x =>
      cases x with
      | ow xs => rw [h1] at hr; exact hr.elim
      | nw _ _ _ => rw [h1] at hr; exact hr.elim
      | sh d =>
        rw [h1] at hr
        obtain ⟨v, hv, hd⟩ := st.sh i d h1
        exact ⟨v, hv, k d v G H hr (Gr.refl j) hd⟩
theorem pd_var (i : Nat) {x : Str} (hN : X.N[i]? = some x := by rfl) (hv : Vis X.env.scope x := by first | exact Or.inl rfl | exact Or.inr (Or.inl rfl) | exact Or.inr (Or.inr rfl)) (hd : (x == ("__debug__" : Str)) = false := by decide)
    (hcd : (x == ("__classdict__" : Str)) = false := by decide) : PD X B (.Name x pos) (dVar i) := pd_of_var (pe_var hN hv hd hcd)
theorem pd_of_c {v : V} {d : D} (h : PE X e (tC v)) (hd : ∀ G, Dat X.K B G v d) : PD X B e (dC d) := pe_mono h fun σ H P q => by
  obtain ⟨H0, G, δ, Q, j, st, hr, k⟩ := q
  exact k d v G H hr (Gr.refl j) (hd G)
theorem pd_int {i : Int} {j : Nat} : PD X B (.Constant (.int i) j pos) (dC (.int i)) := pd_of_c pe_int fun _ => .int i
theorem pd_bl {b : Bool} {j : Nat} : PD X B (.Constant (.bool b) j pos) (dC (.bl b)) := pd_of_c pe_bl fun _ => .bl b
theorem pd_non {j : Nat} : PD X B (.Constant .none j pos) (dC .non) := pd_of_c pe_non fun _ => .non
theorem pd_str {x : Str} {j : Nat} : PD X B (.Constant (.str x) j pos) (dC (.str x)) := pd_of_c pe_str fun _ => .str x
def dNil : DA := fun _ Q => Q []
def dCons (r : DE) (ra : DA) : DA := fun δ Q => r δ fun x => ra δ fun xs => Q (x :: xs)
theorem pad_nil : PAD X B [] dNil := pa_mono pa_nil fun σ H P q => by
  obtain ⟨H0, G, δ, Q, j, st, hr, k⟩ := q
  exact k [] [] G H hr (Gr.refl j) .nil
theorem pad_cons {ra : DA} (h : PD X B e r) (ha : PAD X B es ra) (hs : starEach (e :: es) X.env = (false, eval e X.env) :: starEach es X.env := by rfl) : PAD X B (e :: es) (dCons r ra) := pa_mono (pa_cons h ha hs) fun σ H P q => by
  obtain ⟨H0, G, δ, Q, j, st, hr, k⟩ := q
  refine ⟨H0, G, δ, _, j, st, hr, fun d v G2 H2 q2 g2 h2 => ?_⟩
  refine ⟨H0, G2, δ, _, g2.j, st.gr g2, q2, fun ds vs G3 H3 q3 g3 h3 => ?_⟩
  exact k _ _ G3 H3 q3 (g2.trans g3) (.cons (h2.mono g3.ex) h3)
def dTup (ra : DA) : DE := fun δ Q => ra δ fun ds => match decide (ds.length ≤ 1000) with
  | true => Q (.tup ds)
  | false => False
def fLst (ra : DA) : DA := fun δ Q => ra δ fun ds => match decide (ds.length ≤ 1000) with
  | true => Q ds
  | false => False
theorem sz1000 {n : Nat} (h : n ≤ 1000) : n ≤ sizeLine := Nat.le_trans h (by decide)
theorem pd_tup {ra : DA} {k : Nat} (h : PAD X B es ra) : PD X B (.Tuple es k pos) (dTup ra) := pe_mono (pe_tup h) fun σ H P q => by
  obtain ⟨H0, G, δ, Q, j, st, hr, k⟩ := q
  refine ⟨H0, G, δ, _, j, st, hr, fun ds vs G2 H2 q2 g2 h2 => ?_⟩
  cases hz : decide (ds.length ≤ 1000) with
  | false => rw [hz] at q2; exact q2.elim
  | true =>
    rw [hz] at q2
    refine ⟨sz1000 (by rw [h2.len]; exact of_decide_eq_true hz), fun p hp => ?_⟩
    have g3 := Gr.new (o := .tup vs) g2.j hp
    exact k _ _ _ _ q2 (g2.trans g3) (.tup upd_same (h2.mono g3.ex))
theorem pf_lst {ra : DA} (h : PAD X B es ra) : PF X B (.List es pos) (fLst ra) := pe_mono (pe_lst h) fun σ H P q => by
  obtain ⟨H0, G, δ, Q, j, st, hr, k⟩ := q
  refine ⟨H0, G, δ, _, j, st, hr, fun ds vs G2 H2 q2 g2 h2 => ?_⟩
  cases hz : decide (ds.length ≤ 1000) with
  | false => rw [hz] at q2; exact q2.elim
  | true =>
    rw [hz] at q2
    refine ⟨sz1000 (by rw [h2.len]; exact of_decide_eq_true hz), fun p hp => ?_⟩
    have g3 := Gr.new0 (o := .lst vs) g2.j hp
    have hp0 : H p = none := by
      cases q : H p with
      | none => rfl
      | some o => exact absurd hp (g2.stay q)
    exact k _ _ _ _ _ q2 (g2.trans g3) hp0 (fresh_back g2.j.ex hp) upd_same h2
/-- what was free behind was free ahead -/
theorem Gr.free {K : PySem.W.Frag} {G H G2 H2 : Hp} (g : Gr K B G H G2 H2) {p : Addr} (hp : H2 p = none) : H p = none := by
  cases q : H p with
  | none => rfl
  | some o => exact absurd hp (g.stay q)
/-- what is free is no moving thing and younger than the anchor -/
theorem Gr.neB {K : PySem.W.Frag} {G H : Hp} (j : Jn K B G H) {p : Addr} (hp : H p = none) : B.nb p := by
  have st : B.st p := by
    refine ⟨fun e => ?_, fun t h e => ?_⟩
    · subst e
      obtain ⟨o, ho⟩ := j.at
      rw [hp] at ho
      cases ho
    · subst e
      obtain ⟨⟨ps, z, _⟩, _⟩ := j.xt.tb t h
      rw [hp] at z
      cases z
  refine ⟨st, fun u hu => ?_⟩
  cases q : u.2 p with
  | none => rfl
  | some o =>
    have z := j.xt.keep u hu p o st q
    rw [hp] at z
    cases z
/-- a new list as data -/
def dF (ra : DA) : DE := fun δ Q => ra δ fun ds => Q (.lst ds)
theorem pd_f {ra : DA} (h : PF X B e ra) : PD X B e (dF ra) := pe_mono h fun σ H P q => by
  obtain ⟨H0, G, δ, Q, j, st, hr, k⟩ := q
  refine ⟨H0, G, δ, _, j, st, hr, fun ds p vs G2 H2 q2 g2 hp gp h2 hd => ?_⟩
  exact k _ _ _ _ q2 (g2.frz hp gp (Gr.neB j hp) h2) (.lst upd_same (hd.mono (Ex.new gp)))
abbrev O2 := D → D → (D → Prop) → Prop
abbrev O1 := D → (D → Prop) → Prop
def rLift (K : PySem.W.Frag) (B : Bx) (r : O2) : R2 := fun x y H P => ∃ (G : Hp) (dx dy : D) (Q : D → Prop), Jn K B G H ∧ Dat K B G x dx ∧ Dat K B G y dy ∧ r dx dy Q ∧ ∀ d v G2 H2, Q d → Gr K B G H G2 H2 → Dat K B G2 v d → P v H2
def dOp (o : O2) (ra rb : DE) : DE := fun δ Q => ra δ fun x => rb δ fun y => o x y Q
def dUn (o : O1) (ra : DE) : DE := fun δ Q => ra δ fun x => o x Q
theorem lift2 {K : PySem.W.Frag} {o : O2} {σ : L2.St} {H : Hp} {P : VK} (q : liftE K B (dOp o ra rb) σ H P) : tOp (rLift K B o) (liftE K B ra) (liftE K B rb) σ H P := by
  obtain ⟨H0, G, δ, Q, j, st, hr, k⟩ := q
  refine ⟨H0, G, δ, _, j, st, hr, fun d v G2 H2 q2 g2 h2 => ?_⟩
  refine ⟨H0, G2, δ, _, g2.j, st.gr g2, q2, fun e u G3 H3 q3 g3 h3 => ?_⟩
  exact ⟨G3, d, e, Q, g3.j, h2.mono g3.ex, h3, q3, fun d' v' G4 H4 q4 g4 h4 => k d' v' G4 H4 q4 ((g2.trans g3).trans g4) h4⟩
theorem pd_bin {op : Operator} {o : O2} (h : OpR X (binaryOp op) (rLift X.K B o)) (ha : PD X B a ra) (hb : PD X B b rb) : PD X B (.BinOp a op b pos) (dOp o ra rb) := pe_mono (pe_op h ha hb) fun _ _ _ q => lift2 q
theorem pd_cmp {op : CmpOp} {o : O2} (h : OpR X (compareOp op) (rLift X.K B o)) (ha : PD X B a ra) (hb : PD X B b rb) (hm : behindInMarks op b = false) : PD X B (.Compare a [op] [b] pos) (dOp o ra rb) := pe_mono (pe_cmpR h ha hb hm) fun _ _ _ q => lift2 q
theorem pd_ix {o : O2} (h : IxR X (rLift X.K B o)) (ha : PD X B a ra) (hb : PD X B b rb) (hs : PlainIx b := by intro _ _; rfl) : PD X B (.Subscript a b pos) (dOp o ra rb) := pe_mono (pe_ix h ha hb hs) fun _ _ _ q => lift2 q
def tBl (r : DE) : DT := fun δ Q => r δ fun x => match x with
  | .bl b => Q b
  | _ => False
def tAn (r u : DT) : DT := fun δ Q => r δ fun b => if b = true then u δ Q else Q false
def tOrr (r u : DT) : DT := fun δ Q => r δ fun b => if b = true then Q true else u δ Q
def tNt (r : DT) : DT := fun δ Q => r δ fun b => Q (!b)
theorem ptd_val (h : PD X B e r) (he : ∀ whole, isTrue e X.env whole = (do let v ← whole; standAt e.pos; holding [v] (truthy v)) := by intro _; rfl) : PTD X B e (tBl r) := pt_mono (pt_val h he) fun σ H P q => by
  obtain ⟨H0, G, δ, Q, j, st, hr, k⟩ := q
  refine ⟨H0, G, δ, _, j, st, hr, fun d v G2 H2 q2 g2 h2 => ?_⟩
  cases h2 with
  | bl b => exact ⟨b, rfl, k b G2 H2 q2 g2⟩
  | _ => exact q2.elim
theorem ptd_cmp {op : CmpOp} {o : O2} (h : OpR X (compareOp op) (rLift X.K B o)) (ha : PD X B a ra) (hb : PD X B b rb) (hm : behindInMarks op b = false) : PTD X B (.Compare a [op] [b] pos) (tBl (dOp o ra rb)) := pt_mono (pt_cmpR h ha hb hm) fun σ H P q => by
  obtain ⟨H0, G, δ, Q, j, st, hr, k⟩ := q
  refine lift2 ⟨H0, G, δ, _, j, st, hr, fun d v G2 H2 q2 g2 h2 => ?_⟩
  cases h2 with
  | bl b => exact ⟨b, rfl, k b G2 H2 q2 g2⟩
  | _ => exact q2.elim
theorem ptd_not {t : DT} (h : PTD X B a t) : PTD X B (.UnaryOp .Not a pos) (tNt t) := pt_mono (pt_not h) fun σ H P q => by
  obtain ⟨H0, G, δ, Q, j, st, hr, k⟩ := q
  exact ⟨H0, G, δ, _, j, st, hr, fun b G2 H2 q2 g2 => k _ G2 H2 q2 g2⟩
theorem pwd_and1 {t : DT} (h : PTD X B a t) : PWD X B (.BoolOp .And [a] pos) t := pw_and1 h
theorem pwd_or1 {t : DT} (h : PTD X B a t) : PWD X B (.BoolOp .Or [a] pos) t := pw_or1 h
theorem lift_an {K : PySem.W.Frag} {t u : DT} {σ : L2.St} {H : Hp} {P : Bool → Hp → Prop} (q : liftT K B (tAn t u) σ H P) : L2.tAnd (liftT K B t) (liftT K B u) σ H P := by
  obtain ⟨H0, G, δ, Q, j, st, hr, k⟩ := q
  refine ⟨H0, G, δ, _, j, st, hr, fun c G2 H2 q2 g2 => ?_⟩
  cases c with
  | true => exact ⟨H0, G2, δ, Q, g2.j, st.gr g2, q2, fun c G3 H3 q3 g3 => k c G3 H3 q3 (g2.trans g3)⟩
  | false => exact k false G2 H2 q2 g2
theorem lift_or {K : PySem.W.Frag} {t u : DT} {σ : L2.St} {H : Hp} {P : Bool → Hp → Prop} (q : liftT K B (tOrr t u) σ H P) : L2.tOr (liftT K B t) (liftT K B u) σ H P := by
  obtain ⟨H0, G, δ, Q, j, st, hr, k⟩ := q
  refine ⟨H0, G, δ, _, j, st, hr, fun c G2 H2 q2 g2 => ?_⟩
  cases c with
  | false => exact ⟨H0, G2, δ, Q, g2.j, st.gr g2, q2, fun c G3 H3 q3 g3 => k c G3 H3 q3 (g2.trans g3)⟩
  | true => exact k true G2 H2 q2 g2
theorem pwd_and {t u : DT} {rest : List Expr} (h : PTD X B a t) (hu : PWD X B (.BoolOp .And (b :: rest) pos) u) : PWD X B (.BoolOp .And (a :: b :: rest) pos) (tAn t u) := pw_mono (pw_and h hu) fun _ _ _ q => lift_an q
theorem pwd_or {t u : DT} {rest : List Expr} (h : PTD X B a t) (hu : PWD X B (.BoolOp .Or (b :: rest) pos) u) : PWD X B (.BoolOp .Or (a :: b :: rest) pos) (tOrr t u) := pw_mono (pw_or h hu) fun _ _ _ q => lift_or q
def dAn (ra rb : DE) : DE := fun δ Q => ra δ fun x => match x with
  | .bl c => if c = true then rb δ Q else Q (.bl false)
  | _ => False
def dOr (ra rb : DE) : DE := fun δ Q => ra δ fun x => match x with
  | .bl c => if c = true then Q (.bl true) else rb δ Q
  | _ => False
def dNt (ra : DE) : DE := fun δ Q => ra δ fun x => match x with
  | .bl c => Q (.bl (!c))
  | _ => False
theorem pd_1 {op} (h : PD X B a ra) : PD X B (.BoolOp op [a] pos) ra := pe_one h
theorem pd_and {rest : List Expr} (ha : PD X B a ra) (hb : PD X B (.BoolOp .And (b :: rest) pos) rb) : PD X B (.BoolOp .And (a :: b :: rest) pos) (dAn ra rb) := pe_mono (pe_and ha hb) fun σ H P q => by
  obtain ⟨H0, G, δ, Q, j, st, hr, k⟩ := q
  refine ⟨H0, G, δ, _, j, st, hr, fun d v G2 H2 q2 g2 h2 => ?_⟩
  cases h2 with
  | bl c =>
    refine ⟨c, rfl, ?_⟩
    cases c with
    | true => exact ⟨H0, G2, δ, Q, g2.j, st.gr g2, q2, fun d v G3 H3 q3 g3 h3 => k d v G3 H3 q3 (g2.trans g3) h3⟩
    | false => exact k _ _ G2 H2 q2 g2 (.bl false)
  | _ => exact q2.elim
def dIfE (t : DT) (ra rb : DE) : DE := fun δ Q => t δ fun b => if b = true then ra δ Q else rb δ Q
theorem pd_ifE {c : Expr} {t : DT} (hc : PTD X B c t) (ha : PD X B a ra) (hb : PD X B b rb) : PD X B (.IfExp c a b pos) (dIfE t ra rb) := pe_mono (pe_ifExp hc ha hb) fun σ H P q => by
  obtain ⟨H0, G, δ, Q, j, st, hr, k⟩ := q
  refine ⟨H0, G, δ, _, j, st, hr, fun c G2 H2 q2 g2 => ?_⟩
  cases c with
  | true => exact ⟨H0, G2, δ, Q, g2.j, st.gr g2, q2, fun d v G3 H3 q3 g3 h3 => k d v G3 H3 q3 (g2.trans g3) h3⟩
  | false => exact ⟨H0, G2, δ, Q, g2.j, st.gr g2, q2, fun d v G3 H3 q3 g3 h3 => k d v G3 H3 q3 (g2.trans g3) h3⟩
abbrev FD := List D → (D → Prop) → Prop
def cLift (K : PySem.W.Frag) (B : Bx) (S : FD) : List V → Hp → VK → Prop := fun vs H P => ∃ (G : Hp) (ds : List D) (Q : D → Prop), Jn K B G H ∧ Dats K B G vs ds ∧ S ds Q ∧ ∀ d v G2 H2, Q d → Gr K B G H G2 H2 → Dat K B G2 v d → P v H2
def spD (K : PySem.W.Frag) (B : Bx) (S : FD) : Sp := fun vs H P _ => cLift K B S vs H P
def dCall (S : FD) (ra : DA) : DE := fun δ Q => ra δ fun ds => S ds Q
theorem liftC {K : PySem.W.Frag} {S : FD} {ra : DA} {σ : L2.St} {H : Hp} {P : VK} (q : liftE K B (dCall S ra) σ H P) : liftA K B ra σ H fun vs H1 => cLift K B S vs H1 P := by
  obtain ⟨H0, G, δ, Q, j, st, hr, k⟩ := q
  refine ⟨H0, G, δ, _, j, st, hr, fun ds vs G2 H2 q2 g2 h2 => ?_⟩
  exact ⟨G2, ds, Q, g2.j, h2, q2, fun d v G3 H3 q3 g3 h3 => k d v G3 H3 q3 (g2.trans g3) h3⟩
theorem pd_call {CX : CXT} {k : Nat} {f : Addr} {fd : FuncData} {ps : List Str} {S : FD} {x : Str} {E : XK} {ra : DA} {fp : Pos} (F : FnOk X.prog X.w X.K X.mg X.base CX k f fd ps (spD X.K B S)) (hr : Room k X.A) (hg : Gl X x) (hm : X.mg x = some (.ref f)) (hk : PySem.W.keepIn X.K (.ref f) = true)
    (hb : Binds X.K fd ps []) (hx : Passes CX X E) (ha : PAD X B (e :: es) ra) (hd : (x == ("__debug__" : Str)) = false := by decide) (he : starEach (e :: es) X.env = (false, eval e X.env) :: starEach es X.env := by rfl) (hpl : (backTo pos (starEach es X.env)).any (·.1) = false := by rfl) : PD X B (.Call (.Name x fp) (e :: es) [] pos) (dCall S ra) :=
  pe_mono (pe_call F hr hg hm hk hb .nil hx ha hd he hpl) fun σ H P q => by
    have h := liftC q
    obtain ⟨H0, G, δ, Q, j, st, h1, k⟩ := h
    exact ⟨H0, G, δ, Q, j, st, h1, fun ds vs G2 H2 q2 g2 h2 => by
      show spD X.K B S (vs ++ []) H2 P E
      rw [List.append_nil]
      exact k ds vs G2 H2 q2 g2 h2⟩
theorem pd_callB {id : String} {S : FD} {x : Str} {ra : DA} {fp : Pos} (hc : CallR X (.builtin id) (cLift X.K B S)) (hg : Gl X x) (hm : X.mg x = none) (hv : bootBuiltins x = some (.builtin id)) (ha : PAD X B (e :: es) ra) (hn : x ≠ "__name__" := by decide) (hdb : (x == ("__debug__" : Str)) = false := by decide) (he : starEach (e :: es) X.env = (false, eval e X.env) :: starEach es X.env := by rfl) (hpl : (backTo pos (starEach es X.env)).any (·.1) = false := by rfl) :
    PD X B (.Call (.Name x fp) (e :: es) [] pos) (dCall S ra) := pe_mono (pe_callB hc hg hm hv ha hn hdb he hpl) fun _ _ _ q => liftC q
theorem pd_callTy {T : String} {S : FD} {x : Str} {ra : DA} {fp : Pos} (hc : CallR X (.type T) (cLift X.K B S)) (hg : Gl X x) (hm : X.mg x = none) (hv : bootBuiltins x = some (.type T)) (ha : PAD X B (e :: es) ra) (hn : x ≠ "__name__" := by decide) (hdb : (x == ("__debug__" : Str)) = false := by decide) (he : starEach (e :: es) X.env = (false, eval e X.env) :: starEach es X.env := by rfl) (hpl : (backTo pos (starEach es X.env)).any (·.1) = false := by rfl) :
    PD X B (.Call (.Name x fp) (e :: es) [] pos) (dCall S ra) := pe_mono (pe_callTy hc hg hm hv ha hn hdb he hpl) fun _ _ _ q => liftC q
end
section
variable {X : Cx} {B : Bx} {e : Expr} {st : Stmt} {rest : List Stmt} {r : DE} {t u : DTS} {pos : Pos}
def dNext : DTS := fun W δ => W.nx δ
def dSeq (t u : DTS) : DTS := fun W δ => t { W with nx := u W } δ
theorem psd_nil : PSsD X B [] dNext := pss_mono pss_nil fun E σ H q => by
  obtain ⟨G0, H0, G, δ, W, g, s, h, k⟩ := q
  exact k.nx σ δ G H h g (Ex.refl _) s
theorem psd_cons (h1 : PSD X B st t) (h2 : PSsD X B rest u) : PSsD X B (st :: rest) (dSeq t u) := pss_mono (pss_cons h1 h2) fun E σ H q => by
  obtain ⟨G0, H0, G, δ, W, g, s, h, k⟩ := q
  exact ⟨G0, H0, G, δ, _, g, s, h, ⟨fun σ' δ' G2 H2 q2 g2 e2 s2 => ⟨G0, H0, G2, δ', W, g2, s2, q2, k.up e2⟩, k.bk, k.ct, k.rt, k.ro, k.rs, k.rp⟩⟩
theorem psd_one (h1 : PSD X B st t) : PSsD X B [st] t := pss_mono (pss_one h1) fun _ _ _ q => q
/-- from an expression at a statement's place -/
theorem at_stmt {K : PySem.W.Frag} {G0 H0 G H : Hp} {σ : L2.St} {δ : DS} {P : VK} {Q : D → Prop} (g : Gr K B G0 H0 G H) (s : StOk K B H0 G H σ δ) (h : r δ Q)
    (k : ∀ d v G2 H2, Q d → Gr K B G0 H0 G2 H2 → Ex G G2 → StOk K B H0 G2 H2 σ δ → Dat K B G2 v d → P v H2) : liftE K B r σ H P :=
  ⟨H0, G, δ, Q, g.j, s, h, fun d v G2 H2 q2 g2 h2 => k d v G2 H2 q2 (g.trans g2) g2.ex (s.gr g2) h2⟩
def dRet (r : DE) : DTS := fun W δ => r δ W.rt
theorem psd_ret (h : PD X B e r) : PSD X B (.Return (some e) pos) (dRet r) := ps_mono (ps_ret h) fun E σ H q => by
  obtain ⟨G0, H0, G, δ, W, g, s, h, k⟩ := q
  exact at_stmt g s h fun d v G2 H2 q2 g2 e2 _ h2 => k.rt d v G2 H2 q2 g2 e2 h2
def dRetN : DTS := fun W _ => W.rt .non
def dDrop (r : DE) : DTS := fun W δ => r δ fun _ => W.nx δ
def dNever : DTS := fun _ _ => False
theorem psd_never : PSD X B st dNever := ps_mono ps_never fun E σ H q => by
  obtain ⟨G0, H0, G, δ, W, g, s, h, k⟩ := q
  exact h
def dBrk : DTS := fun W δ => W.bk δ
def dCnt : DTS := fun W δ => W.ct δ
def dIfS (c : DT) (t u : DTS) : DTS := fun W δ => c δ fun b => if b = true then t W δ else u W δ
theorem psd_if {c : Expr} {a b : List Stmt} {tc : DT} (hc : PTD X B c tc) (ha : PSsD X B a t) (hb : PSsD X B b u) : PSD X B (.If c a b pos) (dIfS tc t u) := ps_mono (ps_if hc ha hb) fun E σ H q => by
  obtain ⟨G0, H0, G, δ, W, g, s, h, k⟩ := q
  refine ⟨H0, G, δ, _, g.j, s, h, fun c G2 H2 q2 g2 => ?_⟩
  cases c with
  | true => exact ⟨G0, H0, G2, δ, W, g.trans g2, s.gr g2, q2, k.up g2.ex⟩
  | false => exact ⟨G0, H0, G2, δ, W, g.trans g2, s.gr g2, q2, k.up g2.ex⟩
def gN (i : Nat) : DG := fun d δ Q => Q (δ.set i (some (.sh d)))
theorem pgd_name {i : Nat} {x : Str} (hN : X.N.Nodup) (hi : X.N[i]? = some x) (hx : Loc X.env.scope x) (hf : X.fn x = true ∨ X.env.scope.names.lookup x = some .local := by first | exact .inl rfl | exact .inr rfl | assumption) : PGD X B (.Name x pos) [i] (gN i) :=
  pg_mono (pg_name hN hi hx hf) fun v σ H R q => by
    obtain ⟨H0, G, δ, d, Q, j, s, hd, h, k⟩ := q
    exact k _ _ h (s.set hd) ⟨List.length_set .., fun j hj => List.getElem?_set_ne (fun z => hj (by simp [z]))⟩
def gsNil : DGs := fun ds δ Q => match ds with
  | [] => Q δ
  | _ => False
def gsCons (g : DG) (gs : DGs) : DGs := fun ds δ Q => match ds with
  | d :: ds => g d δ fun δ' => gs ds δ' Q
  | [] => False
def dAsg (r : DE) (g : DG) : DTS := fun W δ => r δ fun d => g d δ W.nx
def dSet (i : Nat) (r : DE) : DTS := fun W δ => r δ fun d => W.nx (δ.set i (some (.sh d)))
theorem psd_set {i : Nat} {x : Str} {pos' : Pos} (hN : X.N.Nodup) (hi : X.N[i]? = some x) (hx : Loc X.env.scope x) (he : PD X B e r) (hs : swapsWith e (some (.Name x pos')) pos.line X.env = pure false := by rfl) (hf : X.fn x = true ∨ X.env.scope.names.lookup x = some .local := by first | exact .inl rfl | exact .inr rfl | assumption) :
    PSD X B (.Assign [.Name x pos'] e pos) (dSet i r) := ps_mono (ps_set hN hi hx he hs hf) fun E σ H q => by
  obtain ⟨G0, H0, G, δ, W, g, s, h, k⟩ := q
  exact at_stmt g s h fun d v G2 H2 q2 g2 e2 s2 h2 => k.nx _ _ G2 H2 q2 g2 e2 (s2.set h2)
end
end DL
namespace DL
open PySem PySem.Spec PyProof.Rows L2 Evl
section
variable {X : Cx} {B : Bx} {e : Expr} {es : List Expr} {st : Stmt} {rest : List Stmt} {r : DE} {t u : DTS} {pos : Pos}
theorem pgsd_nil : PGsD X B [] [] gsNil := pgs_mono pgs_nil fun v σ H R q => by
  obtain ⟨H0, G, δ, ds, Q, j, s, hd, h, k⟩ := q
  cases hd with
  | nil => exact ⟨rfl, k _ _ h s (Upd.refl _ _)⟩
  | cons _ _ => exact h.elim
theorem pgsd_cons {g : DG} {gs : DGs} {is js : List Nat} (h1 : PGD X B e is g) (h2 : PGsD X B es js gs) (hs : (assignEach (e :: es) X.env).map (·.2) = assign e X.env :: (assignEach es X.env).map (·.2) := by rfl) : PGsD X B (e :: es) (is ++ js) (gsCons g gs) := pgs_mono (pgs_cons h1 h2 hs) fun v σ H R q => by
  obtain ⟨H0, G, δ, ds, Q, j, s, hd, h, k⟩ := q
  cases hd with
  | nil => exact h.elim
  | cons h3 h4 =>
    refine ⟨_, _, rfl, H0, G, δ, _, _, j, s, h3, h, fun σ' δ' q2 s2 u2 => ?_⟩
    exact ⟨H0, G, δ', _, Q, j, s2, h4, q2, fun σ3 δ3 q3 s3 u3 => k σ3 δ3 q3 s3 (u2.trans u3)⟩
def gT (n : Nat) (gs : DGs) : DG := fun d δ Q => match d with
  | .tup ds => match decide (ds.length = n) with
    | true => gs ds δ Q
    | false => False
  | _ => False
theorem pgd_tup {k n : Nat} {gs : DGs} {is : List Nat} (hc : X.calm = true) (h : PGsD X B es is gs) (hn : (assignEach es X.env).length = n := by rfl) (hst : (assignEach es X.env).findIdx? (·.1) = none := by rfl) : PGD X B (.Tuple es k pos) is (gT n gs) := pg_mono (pg_tup hc h hn hst) fun v σ H R q => by
  obtain ⟨H0, G, δ, d, Q, j, s, hd, h, k⟩ := q
  cases hd with
  | tup h3 h4 =>
    rename_i a xs ds
    have h : (match decide (ds.length = n) with | true => gs ds δ Q | false => False) := h
    cases hz : decide (ds.length = n) with
    | false => rw [hz] at h; exact h.elim
    | true =>
      rw [hz] at h
      exact ⟨a, xs, rfl, tx j.ex h3, h4.len.trans (of_decide_eq_true hz), H0, G, δ, ds, Q, j, s, h4, h, k⟩
  | _ => exact h.elim
theorem psd_asg {tg : Expr} {g : DG} {is : List Nat} (he : PD X B e r) (hg : PGD X B tg is g) (hs : swapsWithSole [tg] e pos.line X.env = pure false := by rfl) (hw : swappedStores [tg] e X.env = pure none := by rfl) (h1 : (assignEach [tg] X.env).map (·.2) = [assign tg X.env] := by rfl) :
    PSD X B (.Assign [tg] e pos) (dAsg r g) := ps_mono (ps_asg he hg hs hw h1) fun E σ H q => by
  obtain ⟨G0, H0, G, δ, W, g, s, h, k⟩ := q
  refine at_stmt g s h fun d v G2 H2 q2 g2 e2 s2 h2 => ?_
  exact ⟨H0, G2, δ, d, _, g2.j, s2, h2, q2, fun σ' δ' q3 s3 _ => k.nx σ' δ' G2 H2 q3 g2 e2 s3⟩
/-- a, b = x, y -/
def dPar (i j : Nat) (ra : DA) : DTS := fun W δ => ra δ fun ds => match ds with
  | [d, e] => W.nx ((δ.set i (some (.sh d))).set j (some (.sh e)))
  | _ => False
theorem psd_par {i j : Nat} {x y : Str} {a b : Expr} {ra : DA} {px py pt : Pos} {kt k2 pt2} (hc : X.calm = true) (hN : X.N.Nodup) (hi : X.N[i]? = some x) (hj : X.N[j]? = some y) (hij : i ≠ j)
    (hx : X.env.scope.names.lookup x = some .local) (hy : X.env.scope.names.lookup y = some .local) (ha : PAD X B [a, b] ra)
    (hw : swappedStores [.Tuple [.Name x px, .Name y py] kt pt] (.Tuple [a, b] k2 pt2) X.env = pure (some [x, y]))
    (hs : swapsWithSole [.Tuple [.Name x px, .Name y py] kt pt] (.Tuple [a, b] k2 pt2) pos.line X.env = pure false := by rfl) :
    PSD X B (.Assign [.Tuple [.Name x px, .Name y py] kt pt] (.Tuple [a, b] k2 pt2) pos) (dPar i j ra) := ps_mono (ps_par hc hN hi hj hij hx hy ha hw hs) fun E σ H q => by
  obtain ⟨G0, H0, G, δ, W, g, s, h, k⟩ := q
  refine ⟨H0, G, δ, _, g.j, s, h, fun ds vs G2 H2 q2 g2 h2 => ?_⟩
  cases h2 with
  | nil => exact q2.elim
  | cons h3 h4 =>
    cases h4 with
    | nil => exact q2.elim
    | cons h5 h6 =>
      cases h6 with
      | nil => exact ⟨_, _, rfl, k.nx _ _ G2 H2 q2 (g.trans g2) g2.ex (((s.gr g2).set h3).set h5)⟩
      | cons _ _ => exact q2.elim
structure ItD (K : PySem.W.Frag) (B : Bx) (J : It) (G : Hp) (ds : List D) : Prop where
  go : ∀ i G1 H, Ex G G1 → Jn K B G1 H → i < ds.length → J.go i H
  yld : ∀ (i : Nat) G1 H x H' d, Ex G G1 → Jn K B G1 H → J.yld i H x H' → ds[i]? = some d → ∃ G2, Gr K B G1 H G2 H' ∧ Dat K B G2 x d
  stop : ∀ i G1 H, Ex G G1 → Jn K B G1 H → ds.length ≤ i → J.stop i H
def liftI (K : PySem.W.Frag) (B : Bx) (r : DA) : TI := fun σ H R => ∃ (H0 G : Hp) (δ : DS) (Q : List D → Prop), Jn K B G H ∧ StOk K B H0 G H σ δ ∧ r δ Q ∧ ∀ ds J G2 H2, Q ds → Gr K B G H G2 H2 → ItD K B J G2 ds → R J H2
abbrev PID (X : Cx) (B : Bx) (tg e : Expr) (r : DA) : Prop := PI X tg e (liftI X.K B r)
def chars (x : Str) : List D := x.cps.toList.map fun c => .str ⟨#[c]⟩
def iSeq (r : DE) : DA := fun δ Q => r δ fun d => match d with
  | .lst xs => Q xs
  | .tup xs => Q xs
  | .str x => Q (chars x)
  | _ => False
theorem itd_list {K : PySem.W.Frag} {G : Hp} {a : Addr} {xs : List V} {ds : List D} (h : G a = some (.lst xs)) (hd : Dats K B G xs ds) : ItD K B (Itl K a) G ds where
  go := fun i G1 H e j hi => ⟨xs, xs[i]'(by rw [hd.len]; exact hi), sq_of (j.ex _ _ (e _ _ h)), by simp⟩
  yld := fun i G1 H x H' d e j y hi => by
    obtain ⟨rfl, y⟩ := y
    have := y xs (sq_of (j.ex _ _ (e _ _ h)))
    obtain ⟨u, h1, h2⟩ := hd.get hi
    rw [this] at h1
    cases h1
    exact ⟨G1, Gr.refl j, h2.mono e⟩
  stop := fun i G1 H e j hi => ⟨xs, sq_of (j.ex _ _ (e _ _ h)), by rw [hd.len]; exact hi⟩
theorem itd_tup {K : PySem.W.Frag} {G : Hp} {a : Addr} {xs : List V} {ds : List D} (h : SqT K G a xs) (hd : Dats K B G xs ds) : ItD K B (Itt K a) G ds where
  go := fun i G1 H e j hi => ⟨xs, xs[i]'(by rw [hd.len]; exact hi), ex_t (e.trans j.ex) h, by simp⟩
  yld := fun i G1 H x H' d e j y hi => by
    obtain ⟨rfl, y⟩ := y
    have := y xs (ex_t (e.trans j.ex) h)
    obtain ⟨u, h1, h2⟩ := hd.get hi
    rw [this] at h1
    cases h1
    exact ⟨G1, Gr.refl j, h2.mono e⟩
  stop := fun i G1 H e j hi => ⟨xs, ex_t (e.trans j.ex) h, by rw [hd.len]; exact hi⟩
theorem itd_str {K : PySem.W.Frag} {G : Hp} {x : Str} : ItD K B (Its x) G (chars x) where
  go := fun i G1 H e j hi => by
    have : (chars x).length = x.cps.size := by simp [chars]
    show i < x.cps.size
    omega
  yld := fun i G1 H v H' d e j y hi => by
    obtain ⟨rfl, c, h1, h2⟩ := y
    subst h2
    have : d = .str ⟨#[c]⟩ := by
      unfold chars at hi
      rw [List.getElem?_map, Array.getElem?_toList, h1] at hi
      exact (Option.some.inj hi).symm
    subst this
    exact ⟨G1, Gr.refl j, .str _⟩
  stop := fun i G1 H e j hi => by
    have : (chars x).length = x.cps.size := by simp [chars]
    show x.cps.size ≤ i
    omega
theorem pid_seq {tg : Expr} (he : PD X B e r) : PID X B tg e (iSeq r) := by
  refine ⟨fun pins s σ H R I h => ?_⟩
  obtain ⟨H0, G, δ, Q, j, st, hr, k⟩ := h
  refine thn (he.run pins s σ H (fun x H1 => ∃ G2 d, (match d with | D.lst xs => Q xs | D.tup xs => Q xs | D.str x => Q (chars x) | _ => False) ∧ Gr X.K B G H G2 H1 ∧ Dat X.K B G2 x d) I ⟨H0, G, δ, _, j, st, hr, fun d v G2 H2 q2 g2 h2 => ⟨G2, d, q2, g2, h2⟩⟩) fun v s1 ⟨x, H1, I1, r1, q1⟩ => ?_
  obtain ⟨G2, d, q2, g2, h2⟩ := q1
  cases h2 with
  | @lst a xs ds h3 h4 =>
    cases r1
    obtain ⟨its, rv, p, hz⟩ := I1.list (sq_of (g2.j.ex _ _ h3))
    exact wpAny_pyIter_list p.isList (pi_one (tk := s1.toks) I1 _ (turn_list a _) ⟨_, Heap.get?_push_size _ rfl, rfl, rfl⟩ (k ds _ G2 H1 q2 g2 (itd_list h3 h4)))
  | @tup a xs ds h3 h4 =>
    cases r1
    obtain ⟨its, rv, p, hz⟩ := I1.tuple (tx g2.j.ex h3)
    exact wpAny_pyIter_tuple (show s1.heap.IsTuple a its.toArray from p) (pi_one (tk := s1.toks) I1 _ (turn_tuple a _) ⟨_, Heap.get?_push_size _ rfl, rfl, rfl⟩ (k ds _ G2 H1 q2 g2 (itd_tup (st_of h3) h4)))
  | str x =>
    obtain ⟨t, rfl⟩ := r1
    cases ha : x.cps.all (· < 128)
    · exact wpAny_pyIter_wide ha (pi_one (tk := s1.toks) I1 _ (turn_str _ x t "str_iterator" (.inr rfl)) ⟨_, Heap.get?_push_size _ rfl, rfl, rfl⟩ (k _ _ G2 H1 q2 g2 itd_str))
    · exact wpAny_pyIter_ascii ha (pi_one (tk := s1.toks) I1 _ (turn_str _ x t "str_ascii_iterator" (.inl rfl)) ⟨_, Heap.get?_push_size _ rfl, rfl, rfl⟩ (k _ _ G2 H1 q2 g2 itd_str))
  | _ => exact q2.elim
def ups (lo : Int) (n : Nat) : List D := (List.range n).map fun (i : Nat) => .int (lo + (i : Int))
theorem itd_range {K : PySem.W.Frag} {G : Hp} {lo : Int} {n : Nat} : ItD K B (Itr lo n) G (ups lo n) where
  go := fun i G1 H e j hi => by
    have : (ups lo n).length = n := by simp [ups]
    show i < n
    omega
  yld := fun i G1 H v H' d e j y hi => by
    obtain ⟨rfl, rfl⟩ := y
    have hl : (ups lo n).length = n := by simp [ups]
    have hi' : i < n := by
      have := (List.getElem?_eq_some_iff.mp hi).1
      omega
    unfold ups at hi
    rw [List.getElem?_map, List.getElem?_range hi'] at hi
    cases hi
    exact ⟨G1, Gr.refl j, .int _⟩
  stop := fun i G1 H e j hi => by
    have : (ups lo n).length = n := by simp [ups]
    show n ≤ i
    omega
def iR1 (ra : DA) : DA := fun δ Q => ra δ fun ds => match ds with
  | [.int n] => (-(2 ^ 62) ≤ n ∧ n < 2 ^ 62) ∧ Q (ups 0 n.toNat)
  | _ => False
def iR2 (ra : DA) : DA := fun δ Q => ra δ fun ds => match ds with
  | [.int i, .int j] => (-(2 ^ 62) ≤ i ∧ i < 2 ^ 62 ∧ -(2 ^ 62) ≤ j ∧ j < 2 ^ 62) ∧ Q (ups i (j - i).toNat)
  | _ => False
theorem pid_r1 {tg a : Expr} {ra : DA} {p : Pos} (hg : Gl X "range") (hm : X.mg "range" = none) (ha : PAD X B [a] ra) (hs : starEach [a] X.env = [(false, eval a X.env)] := by rfl) : PID X B tg (.Call (.Name "range" p) [a] [] pos) (iR1 ra) :=
  ⟨fun pins s σ H R I h => (pi_range1 (tg := tg) hg hm ha hs).run pins s σ H R I (by
    obtain ⟨H0, G, δ, Q, j, st, hr, k⟩ := h
    refine ⟨H0, G, δ, _, j, st, hr, fun ds vs G2 H2 q2 g2 h2 => ?_⟩
    cases h2 with
    | nil => exact q2.elim
    | cons h3 h4 =>
      cases h3 with
      | int n =>
        cases h4 with
        | nil => exact ⟨n, rfl, q2.1.1, q2.1.2, k _ _ G2 H2 q2.2 g2 itd_range⟩
        | cons _ _ => exact q2.elim
      | _ => exact q2.elim)⟩
def forD (g : DG) (tb : DTS) (W : DEnds) : List D → DS → Prop
  | [], δ => W.nx δ
  | d :: ds, δ => g d δ fun δ' => tb { W with nx := forD g tb W ds, ct := forD g tb W ds, bk := W.nx } δ'
def dFor (ri : DA) (g : DG) (tb : DTS) : DTS := fun W δ => ri δ fun ds => forD g tb W ds δ
theorem psd_for {tg iter : Expr} {body : List Stmt} {ri : DA} {g : DG} {is : List Nat} {tb : DTS} (hp : PassesOwn (model X.prog X.w) X.A X.env X.xe) (hc : X.calm = true) (hi : PID X B tg iter ri) (hg : PGD X B tg is g) (hb : PSsD X B body tb)
    (hs : ∀ x, foldedSetIterable iter X.env x = pure x := by intro _; rfl) : PSD X B (.For tg iter body [] pos) (dFor ri g tb) := ps_mono (ps_for hp hc hi hg hb hs) fun E σ H q => by
  obtain ⟨G0, H0, G, δ, W, g0, s, h, k⟩ := q
  refine ⟨H0, G, δ, _, g0.j, s, h, fun ds J G2 H2 q2 g2 it => ?_⟩
  refine ⟨fun i m σ H => i + m = ds.length ∧ ∃ G' δ', Ex G2 G' ∧ Gr X.K B G0 H0 G' H ∧ StOk X.K B H0 G' H σ δ' ∧ forD g tb W (ds.drop i) δ', ⟨ds.length, by omega, G2, δ, Ex.refl _, g0.trans g2, s.gr g2, q2⟩, fun i m σ H hw => ?_⟩
  obtain ⟨em, G', δ', ex, gr, st, hf⟩ := hw
  by_cases hlt : i < ds.length
  · refine .inr ⟨it.go i G' H ex gr.j hlt, fun σ1 H1 => ∃ G3 δ3, Ex G2 G3 ∧ Gr X.K B G0 H0 G3 H1 ∧ StOk X.K B H0 G3 H1 σ1 δ3 ∧ forD g tb W (ds.drop (i + 1)) δ3, fun σ1 H1 hn => ⟨m - 1, by omega, by omega, hn⟩, fun x H1 hy => ?_⟩
    have hd : ds[i]? = some ds[i] := List.getElem?_eq_getElem hlt
    obtain ⟨G3, g3, hx⟩ := it.yld i G' H x H1 _ ex gr.j hy hd
    rw [List.drop_eq_getElem_cons hlt] at hf
    refine ⟨H0, G3, δ', ds[i], _, g3.j, st.gr g3, hx, hf, fun σ2 δ2 q3 s3 _ => ?_⟩
    refine ⟨G0, H0, G3, δ2, _, gr.trans g3, s3, q3, ⟨?_, ?_, ?_, ?_, ?_, ?_, ?_⟩⟩
    · exact fun σ4 δ4 G4 H4 q4 g4 e4 s4 => ⟨G4, δ4, (ex.trans g3.ex).trans e4, g4, s4, q4⟩
    · exact fun σ4 δ4 G4 H4 q4 g4 e4 s4 => k.nx _ _ _ _ q4 g4 (g2.ex.trans ((ex.trans g3.ex).trans e4)) s4
    · exact fun σ4 δ4 G4 H4 q4 g4 e4 s4 => ⟨G4, δ4, (ex.trans g3.ex).trans e4, g4, s4, q4⟩
    · exact fun d v G4 H4 q4 g4 e4 h4 => k.rt _ _ _ _ q4 g4 (g2.ex.trans ((ex.trans g3.ex).trans e4)) h4
    · exact fun o v f G4 H4 q4 g4 e4 h4 => k.ro _ _ _ _ _ q4 g4 (g2.ex.trans ((ex.trans g3.ex).trans e4)) h4
    · exact fun σ' δ'' d v G4 H4 q4 g4 e4 h4 => k.rs _ _ _ _ _ _ q4 g4 (g2.ex.trans ((ex.trans g3.ex).trans e4)) h4
    · exact fun q' vs' os f G4 H4 q4 g4 e4 h4 => k.rp _ _ _ _ _ _ q4 g4 (g2.ex.trans ((ex.trans g3.ex).trans e4)) h4
  · have e : i = ds.length := by omega
    subst e
    rw [List.drop_length] at hf
    exact .inl ⟨it.stop _ G' H ex gr.j (Nat.le_refl _), k.nx _ _ _ _ hf gr (g2.ex.trans ex) st⟩
end
end DL
namespace DL
open PySem PySem.Spec PyProof.Rows L2 Evl
def wipeD (δ : DS) : List Nat → DS
  | [] => δ
  | v :: vs => (wipeD δ vs).set v none
theorem StOk.wipe {K : PySem.W.Frag} {B : Bx} {H0 G H : Hp} {σ : L2.St} {δ : DS} (x : StOk K B H0 G H σ δ) : ∀ vs : List Nat, StOk K B H0 G H (L2.wipe σ vs) (wipeD δ vs)
  | [] => x
  | _ :: vs => (StOk.wipe x vs).forget
def lcD (g : DG) (tt : DT) (te : DE) (δ : DS) (Q : List D → Prop) : List D → List D → Prop
  | [], acc => Q acc
  | d :: ds, acc => g d δ fun δ' => tt δ' fun b => if b = true then te δ' fun y => lcD g tt te δ Q ds (acc ++ [y]) else lcD g tt te δ Q ds acc
def fLc (ri : DA) (g : DG) (tt : DT) (te : DE) (vs : List Nat) : DA := fun δ Q => ri δ fun ds => ds.length ≤ sizeLine ∧ lcD g tt te (wipeD δ vs) Q ds []
section
variable {X : Cx} {B : Bx}
abbrev PTsD (X : Cx) (B : Bx) (es : List Expr) (r : DT) : Prop := PTs X es (liftT X.K B r)
def dYes : DT := fun _ Q => Q true
theorem ptsd_nil : PTsD X B [] dYes := ⟨fun pins s σ H Q I h => pts_nil.run pins s σ H Q I (by
  obtain ⟨H0, G, δ, Q', j, st, hr, k⟩ := h
  exact k true G H hr (Gr.refl j))⟩
theorem ptsd_one {c : Expr} {t : DT} (h : PTD X B c t) : PTsD X B [c] t := pts_one h
theorem lift_lc {K : PySem.W.Frag} {ri : DA} {g : DG} {is : List Nat} {tt : DT} {te : DE} {vs : List Nat} {σ : L2.St} {H : Hp} {P : VK} (hv : ∀ i ∈ is, i ∈ vs) (q : liftF K B (fLc ri g tt te vs) σ H P) :
    tLc (liftI K B ri) (liftG K B is g) (liftT K B tt) (liftE K B te) vs σ H P := by
  obtain ⟨H0, G, δ, Q, j, st, hr, k⟩ := q
  refine ⟨H0, G, δ, _, j, st, hr, fun ds J G2 H2 q2 g2 it p hp => ?_⟩
  obtain ⟨hz, q2⟩ := q2
  have nb : B.nb p := Gr.neB g2.j hp
  have gp : G2 p = none := fresh_back g2.j.ex hp
  have st2 := (st.gr g2)
  refine ⟨fun i m H' => i + m = ds.length ∧ ∃ G' acc accD, Gr K B G2 H2 G' H' ∧ G' p = none ∧ H' p = some (.lst acc) ∧ Dats K B G' acc accD ∧ acc.length ≤ i ∧ lcD g tt te (wipeD δ vs) Q (ds.drop i) accD,
    ⟨ds.length, by omega, G2, [], [], Gr.new0 g2.j hp, gp, upd_same, .nil, Nat.le_refl _, q2⟩, fun i m H' hw => ?_⟩
  obtain ⟨em, G', acc, accD, gr, gp', hp', ha, hl, hf⟩ := hw
  by_cases hlt : i < ds.length
  · refine .inr ⟨it.go i G' H' gr.ex gr.j hlt, fun H1 => ∃ G1 acc accD, Gr K B G2 H2 G1 H1 ∧ G1 p = none ∧ H1 p = some (.lst acc) ∧ Dats K B G1 acc accD ∧ acc.length ≤ i + 1 ∧ lcD g tt te (wipeD δ vs) Q (ds.drop (i + 1)) accD, fun H1 hn => ⟨m - 1, by omega, by omega, hn⟩, fun x H1 hy => ?_⟩
    have hd : ds[i]? = some ds[i] := List.getElem?_eq_getElem hlt
    obtain ⟨G3, g3, hx⟩ := it.yld i G' H' x H1 _ gr.ex gr.j hy hd
    rw [List.drop_eq_getElem_cons hlt] at hf
    have hpn : Mu H' p := ⟨_, hp', nl rfl⟩
    refine ⟨H0, G3, wipeD δ vs, ds[i], _, g3.j, (st2.gr (gr.trans g3)).wipe vs, hx, hf, fun σ2 δ2 q3 s3 u3 => ?_⟩
    refine ⟨by rw [u3.wipe hv, wipe_wipe], H0, G3, δ2, _, g3.j, s3, q3, fun b G4 H4 q4 g4 => ?_⟩
    have g34 := g3.trans g4
    cases b with
    | false =>
      exact ⟨G4, acc, accD, gr.trans g34, by rw [g34.old p hpn]; exact gp', g34.keep p _ nb hp', ha.mono g34.ex, Nat.le_succ_of_le hl, q4⟩
    | true =>
      refine ⟨H0, G4, δ2, _, g4.j, s3.gr g4, q4, fun y u G5 H5 q5 g5 h5 => ?_⟩
      have g35 := g34.trans g5
      have gp5 : G5 p = none := by rw [g35.old p hpn]; exact gp'
      refine ⟨acc, g35.keep p _ nb hp', by omega, G5, _, _, (gr.trans g35).own hp gp5 nb, gp5, upd_same, (ha.mono g35.ex).append (.cons h5 .nil), ?_, q5⟩
      rw [List.length_append]
      show acc.length + 1 ≤ i + 1
      omega
  · have e : i = ds.length := by omega
    subst e
    rw [List.drop_length] at hf
    exact .inl ⟨it.stop _ G' H' gr.ex gr.j (Nat.le_refl _), k _ p acc G' H' hf (g2.trans gr) (g2.free hp) gp' hp' ha⟩
theorem pf_lc {elt tg iter : Expr} {ifs : List Expr} {scope : Scope} {own : List (Str × Nat)} {pos : Pos} {ri : DA} {g : DG} {is : List Nat} {tt : DT} {te : DE} (hc : X.calm = true) (hN : X.N.Nodup) (hi : PID X B tg iter ri) (ok : BlkOk X.N X.env.scope scope own) (hv : ∀ i ∈ is, i ∈ own.map (·.2))
    (hg : ∀ (s : Shared) (H : Hp) (C : Addr) (cl : List (Str × Addr)) (fp : List Addr), PGD (X.blk s H scope (compEnvC scope cl C X.env) fp) B tg is g) (ht : ∀ (s : Shared) (H : Hp) (C : Addr) (cl : List (Str × Addr)) (fp : List Addr), PTsD (X.blk s H scope (compEnvC scope cl C X.env) fp) B ifs tt)
    (he : ∀ (s : Shared) (H : Hp) (C : Addr) (cl : List (Str × Addr)) (fp : List Addr), PD (X.blk s H scope (compEnvC scope cl C X.env) fp) B elt te) (hs : ∀ x, foldedSetIterable iter X.env x = pure x := by intro _; rfl) :
    PF X B (.ListComp elt [⟨tg, iter, ifs, 0⟩] scope pos) (fLc ri g tt te (own.map (·.2))) := pe_mono (pe_lc hc hN hi ok hg ht he hs) fun _ _ _ q => lift_lc hv q
/-- y = [..] -/
theorem psd_setLc {i : Nat} {y : Str} {py : Pos} {elt tg iter : Expr} {ifs : List Expr} {scope : Scope} {own : List (Str × Nat)} {pos spos : Pos} {ri : DA} {g : DG} {is : List Nat} {tt : DT} {te : DE} (hc : X.calm = true) (hN : X.N.Nodup) (hy : X.N[i]? = some y) (hyl : X.env.scope.names.lookup y = some .local)
    (hsw : swapsWith (.ListComp elt [⟨tg, iter, ifs, 0⟩] scope pos) (some (.Name y py)) spos.line X.env = pure true) (hi : PID X B tg iter ri) (ok : BlkOk X.N X.env.scope scope own) (hv : ∀ i ∈ is, i ∈ own.map (·.2))
    (hg : ∀ (s : Shared) (H : Hp) (C : Addr) (cl : List (Str × Addr)) (fp : List Addr), PGD (X.blk s H scope (compEnvC scope cl C X.env) fp) B tg is g) (ht : ∀ (s : Shared) (H : Hp) (C : Addr) (cl : List (Str × Addr)) (fp : List Addr), PTsD (X.blk s H scope (compEnvC scope cl C X.env) fp) B ifs tt)
    (he : ∀ (s : Shared) (H : Hp) (C : Addr) (cl : List (Str × Addr)) (fp : List Addr), PD (X.blk s H scope (compEnvC scope cl C X.env) fp) B elt te) (hs : ∀ x, foldedSetIterable iter X.env x = pure x := by intro _; rfl) :
    PSD X B (.Assign [.Name y py] (.ListComp elt [⟨tg, iter, ifs, 0⟩] scope pos) spos) (dSet i (dF (fLc ri g tt te (own.map (·.2))))) := ps_mono (ps_setLc hc hN hy hyl hsw hi ok hg ht he hs) fun E σ H q => by
  obtain ⟨G0, H0, G, δ, W, g0, s, h, k⟩ := q
  refine lift_lc hv ⟨H0, G, δ, _, g0.j, s, h, fun ds p vs G2 H2 q2 g2 hp gp h2 hd => ?_⟩
  have g3 := g2.frz hp gp (Gr.neB g0.j hp) h2
  exact k.nx _ _ _ _ q2 (g0.trans g3) g3.ex ((s.gr g3).set (.lst upd_same (hd.mono (Ex.new gp))))
/-- what was one's own becomes known -/
theorem Gr.frzs {K : PySem.W.Frag} {G H G2 H2 : Hp} {f : List Addr} (x : Gr K B G H G2 H2) (hf : ∀ p ∈ f, H p = none ∧ B.nb p ∧ G2 p = none) : Gr K B G H (frzG G2 H2 f) H2 := by
  have ex := frz_ex (G := G2) (H := H2) (f := f) fun p hp => (hf p hp).2.2
  have nn : ∀ a, ¬ B.nb a → a ∉ f := fun a n z => n (hf a z).2.1
  refine ⟨x.ex.trans ex, x.kp, ⟨fun a u h => ?_, ?_, ?_, x.j.next ex (fun _ _ _ h => h) (fun a n _ => by unfold frzG; rw [if_neg (nn a n)]) (fun t h _ => ⟨rfl, fun g => by unfold frzG; rw [if_neg fun z => (hf _ z).2.1.tab t h rfl]; exact g⟩) (fun _ _ h => ⟨_, h⟩)⟩, fun a h => ?_⟩
  · unfold frzG at h
    split at h
    · exact h
    · exact x.j.ex a u h
  · unfold frzG
    rw [if_neg fun z => (hf _ z).2.1.1.1 rfl]
    exact x.j.no
  · obtain ⟨a, b, c, ns, h1, h2, h3⟩ := x.j.bag
    exact ⟨a, b, c, ns, h1, ex_l ex h2, h3⟩
  · unfold frzG
    rw [if_neg fun z => h.ne (hf _ z).1]
    exact x.old a h
/-- what stands in slot i is one's own no more: it's data from here on -/
def dFrz (i : Nat) (t : DTS) : DTS := fun W δ => match δ[i]? with
  | some (some (.ow _ o)) => t W (δ.set i (some (.sh o.toD)))
  | _ => False
theorem set_same {σ : L2.St} {i : Nat} {v : V} (h : σ[i]? = some (some v)) : σ.set i (some v) = σ := by
  apply List.ext_getElem?
  intro j
  by_cases hj : i = j
  · subst hj
    rw [List.getElem?_set_self (List.getElem?_eq_some_iff.mp h).1, h]
  · rw [List.getElem?_set_ne hj]
/-- the dicts at these places are locked -/
theorem lock_all {pins : List (Addr × Obj)} {σ : L2.St} {s : Shared} : ∀ (f : List Addr) {H : Hp}, Inv X pins σ H s → f.Nodup → ∃ L, Inv X pins σ L s ∧ Lkd H L f
  | [], H, I, _ => ⟨H, I, fun _ _ => rfl, fun _ _ h => h, (fun _ _ z => nomatch z), (fun _ _ z => nomatch z), (fun _ _ h => h), fun _ _ h _ _ => h⟩
  | p :: f, H, I, nd => by
    have hp : p ∉ f := (List.nodup_cons.mp nd).1
    obtain ⟨L, I1, l⟩ := lock_all f I (List.nodup_cons.mp nd).2
    have hpL : L p = H p := l.out p hp
    by_cases h1 : ∃ u, H p = some u ∧ Mut (some u) ∧ ((∃ vs, u = .dK vs) ∨ ∃ vs, u = .dT vs)
    · obtain ⟨u, hu, mu, hk⟩ := h1
      obtain ⟨od, I2⟩ := I1.lock (hpL.trans hu) mu
      refine ⟨_, I2, fun q hq => ?_, fun q vs h => ?_, fun q vs hq h => ?_, fun q vs hq h => ?_, fun q ps h => ?_, fun q o h n1 n2 => ?_⟩
      · rw [upd_ne fun e => hq (by rw [e]; exact List.mem_cons_self)]
        exact l.out q fun z => hq (List.mem_cons_of_mem _ z)
      · have ne : q ≠ p := fun e => by
          rw [e, hu] at h
          cases h
          rcases hk with ⟨_, z⟩ | ⟨_, z⟩ <;> cases z
        rw [upd_ne ne]
        exact l.lst q vs h
      · by_cases e : q = p
        · subst e
          rw [hu] at h
          cases h
          exact ⟨od, upd_same⟩
        · rw [upd_ne e]
          exact l.dK q vs ((List.mem_cons.mp hq).resolve_left e) h
      · by_cases e : q = p
        · subst e
          rw [hu] at h
          cases h
          exact ⟨od, upd_same⟩
        · rw [upd_ne e]
          exact l.dT q vs ((List.mem_cons.mp hq).resolve_left e) h
      · by_cases e : q = p
        · subst e
          rw [upd_same] at h
          cases h
        · rw [upd_ne e] at h
          exact l.tb q ps h
      · by_cases e : q = p
        · subst e
          rw [hu] at h
          cases h
          rcases hk with ⟨vs, z⟩ | ⟨vs, z⟩
          · exact absurd z (n1 vs)
          · exact absurd z (n2 vs)
        · rw [upd_ne e]
          exact l.oth q o h n1 n2
    · refine ⟨L, I1, fun q hq => l.out q fun z => hq (List.mem_cons_of_mem _ z), l.lst, fun q vs hq h => ?_, fun q vs hq h => ?_, l.tb, l.oth⟩
      · by_cases e : q = p
        · subst e
          exact absurd ⟨_, h, trivial, .inl ⟨_, rfl⟩⟩ h1
        · exact l.dK q vs ((List.mem_cons.mp hq).resolve_left e) h
      · by_cases e : q = p
        · subst e
          exact absurd ⟨_, h, trivial, .inr ⟨_, rfl⟩⟩ h1
        · exact l.dT q vs ((List.mem_cons.mp hq).resolve_left e) h
/-- own places are locked: what is known stays known -/
theorem Gr.lock {K : PySem.W.Frag} {G H G2 H2 L : Hp} {f : List Addr} (x : Gr K B G H G2 H2) (l : Lkd H2 L f) (hf : ∀ p ∈ f, H p = none ∧ B.nb p ∧ G2 p = none) : Gr K B G H G2 L := by
  refine ⟨x.ex, fun a o n h => ?_, ⟨fun a u h => ?_, x.j.no, ?_, x.j.next (Ex.refl _) (fun a o n h => (l.out a fun z => n (hf a z).2.1).trans h) (fun _ _ _ => rfl) (fun t h _ => ⟨l.out _ fun z => (hf _ z).2.1.tab t h rfl, fun g => g⟩) (fun a ps h => ⟨ps, l.tb a ps h⟩)⟩, x.old⟩
  · rw [l.out a fun z => by rw [(hf a z).1] at h; cases h]
    exact x.kp a o n h
  · rw [l.out a fun z => by rw [(hf a z).2.2] at h; cases h]
    exact x.j.ex a u h
  · obtain ⟨a, b, c, ns, h1, h2, h3⟩ := x.j.bag
    exact ⟨a, b, c, ns, by rw [l.out _ fun z => (hf _ z).2.1.1.1 rfl]; exact h1, h2, h3⟩
theorem frz_run {i : Nat} {t : DTS} {E : Ends} {σ : L2.St} {H : Hp} {pins : List (Addr × Obj)} {s : Shared} (I : Inv X pins σ H s) (q : liftS X.K B (dFrz i t) E σ H) : ∃ L, Inv X pins σ L s ∧ liftS X.K B t E σ L := by
  obtain ⟨G0, H0, G, δ, W, g0, st, h, k⟩ := q
  unfold dFrz at h
  cases h1 : δ[i]? with
  | none => rw [h1] at h; exact h.elim
  | some o =>
    cases o with
    | none => rw [h1] at h; exact h.elim
    | some x =>
      cases x with
      | sh d => rw [h1] at h; exact h.elim
      | nw _ _ _ => rw [h1] at h; exact h.elim
      | ow v o =>
        rw [h1] at h
        obtain ⟨F, y⟩ := st.ex
        obtain ⟨e1, e2, e3, e4⟩ := y.ow h1
        obtain ⟨L, I2, l⟩ := lock_all (F i) I e3
        have hG : ∀ p ∈ F i, G p = none := fun p hp => (e2.node p hp).1
        have ex := frz_ex (G := G) (H := L) hG
        have g1 := g0.lock l fun p hp => ⟨(e4 p hp).1, (e4 p hp).2, hG p hp⟩
        refine ⟨L, I2, G0, H0, frzG G L (F i), δ.set i (some (.sh o.toD)), W, g1.frzs fun p hp => ⟨(e4 p hp).1, (e4 p hp).2, hG p hp⟩, ?_, h, k.up ex⟩
        have s3 := y.put (i := i) (List.getElem?_eq_some_iff.mp e1).1 ex (H2 := L) (fun p _ _ hp => ⟨l.out p hp, by unfold frzG; rw [if_neg hp]⟩) (.sh (e2.dat hG l fun p hp => hp)) fun p hp => nomatch hp
        rw [set_same e1] at s3
        exact ⟨_, s3⟩
theorem psds_frz {st : List Stmt} {t : DTS} (i : Nat) (h : PSsD X B st t) : PSsD X B st (dFrz i t) := ⟨fun pins s σ H E I hw => let ⟨L, I2, q⟩ := frz_run I hw; h.run pins s σ L E I2 q⟩
def dWhile (c : DT) (tb : DTS) : DTS := fun W δ => ∃ I : Nat → DS → Prop, (∃ m, I m δ) ∧ ∀ m δ', I m δ' → c δ' fun b => if b = true then tb { W with nx := fun δ2 => ∃ m', m' < m ∧ I m' δ2, ct := fun δ2 => ∃ m', m' < m ∧ I m' δ2, bk := W.nx } δ' else W.nx δ'
theorem psd_while {c : Expr} {body : List Stmt} {tc : DT} {tb : DTS} {pos : Pos} (hp : PassesOwn (model X.prog X.w) X.A X.env X.xe) (hc : PTD X B c tc) (hb : PSsD X B body tb) : PSD X B (.While c body [] pos) (dWhile tc tb) := ps_mono (ps_while hp hc hb) fun E σ H q => by
  obtain ⟨G0, H0, G, δ, W, g0, s, ⟨I, ⟨m0, h0⟩, h⟩, k⟩ := q
  refine ⟨fun m σ H => ∃ G' δ', Ex G G' ∧ Gr X.K B G0 H0 G' H ∧ StOk X.K B H0 G' H σ δ' ∧ I m δ', ⟨m0, G, δ, Ex.refl _, g0, s, h0⟩, fun m σ H hw => ?_⟩
  obtain ⟨G', δ', ex, gr, st, hi⟩ := hw
  refine ⟨H0, G', δ', _, gr.j, st, h m δ' hi, fun b G2 H2 q2 g2 => ?_⟩
  cases b with
  | false => exact k.nx _ _ _ _ q2 (gr.trans g2) (ex.trans g2.ex) (st.gr g2)
  | true =>
    refine ⟨fun σ1 H1 => ∃ G1 δ1, Ex G G1 ∧ Gr X.K B G0 H0 G1 H1 ∧ StOk X.K B H0 G1 H1 σ1 δ1 ∧ ∃ m', m' < m ∧ I m' δ1, fun σ1 H1 hn => ?_, ?_⟩
    · obtain ⟨G1, δ1, a1, a2, a3, m', a4, a5⟩ := hn
      exact ⟨m', a4, G1, δ1, a1, a2, a3, a5⟩
    · refine ⟨G0, H0, G2, δ', _, gr.trans g2, st.gr g2, q2, ⟨?_, ?_, ?_, ?_, ?_, ?_, ?_⟩⟩
      · exact fun σ4 δ4 G4 H4 q4 g4 e4 s4 => ⟨G4, δ4, (ex.trans g2.ex).trans e4, g4, s4, q4⟩
      · exact fun σ4 δ4 G4 H4 q4 g4 e4 s4 => k.nx _ _ _ _ q4 g4 ((ex.trans g2.ex).trans e4) s4
      · exact fun σ4 δ4 G4 H4 q4 g4 e4 s4 => ⟨G4, δ4, (ex.trans g2.ex).trans e4, g4, s4, q4⟩
      · exact fun d v G4 H4 q4 g4 e4 h4 => k.rt _ _ _ _ q4 g4 ((ex.trans g2.ex).trans e4) h4
      · exact fun o v f G4 H4 q4 g4 e4 h4 => k.ro _ _ _ _ _ q4 g4 ((ex.trans g2.ex).trans e4) h4
      · exact fun σ' δ'' d v G4 H4 q4 g4 e4 h4 => k.rs _ _ _ _ _ _ q4 g4 ((ex.trans g2.ex).trans e4) h4
      · exact fun q' vs' os f G4 H4 q4 g4 e4 h4 => k.rp _ _ _ _ _ _ q4 g4 ((ex.trans g2.ex).trans e4) h4
end
def startD (n : Nat) (ds : List D) : DS := ds.map (fun d => some (.sh d)) ++ List.replicate (n - ds.length) none
theorem start_ok {K : PySem.W.Frag} {B : Bx} {H0 G H : Hp} {N : List Str} {vs : List V} {ds : List D} (h : Dats K B G vs ds) : StOk K B H0 G H (L2.start N vs) (startD N.length ds) := by
  refine ⟨fun _ => [], ?_, fun i ov od e1 e2 => ?_, fun _ _ _ _ _ p hp => nomatch hp⟩
  · unfold L2.start startD
    rw [List.length_append, List.length_append, List.length_map, List.length_map, List.length_replicate, List.length_replicate, h.len]
  · unfold startD at e2
    unfold L2.start at e1
    by_cases hi : i < ds.length
    · rw [List.getElem?_append_left (by rw [List.length_map]; exact hi), List.getElem?_map] at e2
      rw [List.getElem?_append_left (by rw [List.length_map, h.len]; exact hi), List.getElem?_map] at e1
      cases hd : ds[i]? with
      | none => rw [hd] at e2; cases e2
      | some d' =>
        rw [hd] at e2
        cases e2
        obtain ⟨v, h1, h2⟩ := h.get hd
        rw [h1] at e1
        cases e1
        exact .sh h2
    · rw [List.getElem?_append_right (by rw [List.length_map]; omega), List.getElem?_replicate] at e2
      split at e2
      · cases e2
        exact .no
      · cases e2
section
variable {P : Program} {w : World} {K : PySem.W.Frag} {mg : Str → Option Value} {base : Heap}
theorem fn_d {x qual : Str} {st : Stmt} {f : Addr} {fd : FuncData} {N ps : List Str} {k : Nat} {B : Bx} {S : FD} {t : DTS} (F : Fun K x qual st f fd) (Sc : FnScope N ps (defScope st)) (len : ∀ ds Q, S ds Q → ds.length = ps.length)
    (hbody : ∀ (cdv : Value) (A : Around) (outer : List Env) (s : Shared) (H : Hp) (E : XK), Room k (A.deeper (envOfC qual (defScope st) s.heap.objs.size f cdv)) → PSsD (cxOf CX0 P w K mg base N qual (defScope st) f cdv A outer s H E).nox B (defBody st) t)
    (vc : ∀ ds Q, S ds Q → t { nx := fun _ => Q .non, rt := Q } (startD N.length ds)) : FnOk P w K mg base CX0 (k + 1) f fd ps (spD K B S) := by
  refine F.ok Sc (fun vs H Q E h => ?_) (fun cdv A outer s H vs Q E hr h => ⟨_, hbody cdv A outer s H E hr, ?_⟩)
  · obtain ⟨G, ds, R, j, hd, hs, _⟩ := h
    rw [hd.len]
    exact len ds R hs
  · obtain ⟨G, ds, R, j, hd, hs, kk⟩ := h
    refine ⟨G, H, G, startD N.length ds, _, Gr.refl j, start_ok hd, vc ds R hs, ⟨?_, ?_, ?_, ?_, ?_, ?_, ?_⟩⟩
    · exact fun σ δ G2 H2 q g _ s2 => kk .non .non G2 H2 q g .non
    · exact fun σ δ G2 H2 q g _ s2 => q.elim
    · exact fun σ δ G2 H2 q g _ s2 => q.elim
    · exact fun d v G2 H2 q g _ hd => kk d v G2 H2 q g hd
    · exact fun o v f G2 H2 q => q.elim
    · exact fun σ' δ'' d v G2 H2 q => q.elim
    · exact fun q' vs' os f G2 H2 q => q.elim
end
end DL
namespace DL
open PySem PySem.Spec PyProof.Rows L2 Evl
mutual
def D.py : D → PyData
  | .non => .none
  | .bl b => .bool b
  | .int i => .int i
  | .str x => .str x
  | .lst xs => .list (pyL xs)
  | .tup xs => .tuple (pyL xs)
  | .dic _ => .none
  | .obj _ _ => .none
  | .bag => .none
  | .ktup _ => .none
def pyL : List D → List PyData
  | [] => []
  | x :: xs => D.py x :: pyL xs
end
mutual
def D.fine : D → Bool
  | .non => true
  | .bl _ => true
  | .int i => decide (i.natAbs.log2 < 1920)
  | .str x => PyData.strOk x
  | .lst xs => fineL xs
  | .tup xs => fineL xs
  | .dic _ => false
  | .obj _ _ => false
  | .bag => false
  | .ktup _ => false
def fineL : List D → Bool
  | [] => true
  | x :: xs => D.fine x && fineL xs
end
mutual
def D.dep : D → Nat
  | .lst xs => depL xs + 1
  | .tup xs => depL xs + 1
  | _ => 0
def depL : List D → Nat
  | [] => 0
  | x :: xs => max (D.dep x) (depL xs)
end
mutual
def D.wt : D → Nat
  | .non => 4
  | .bl _ => 5
  | .int _ => 2000
  | .str x => 10 * x.length + 2
  | .lst xs => wtL xs + 4
  | .tup xs => wtL xs + 4
  | _ => 0
def wtL : List D → Nat
  | [] => 0
  | x :: xs => D.wt x + 2 + wtL xs
end
mutual
theorem py_lay : ∀ d : D, d.fine = true → d.py.canLay0 = true
  | .non, _ => rfl
  | .bl _, _ => rfl
  | .int _, _ => rfl
  | .str x, h => by simpa [D.py, PyData.canLay0, D.fine] using h
  | .lst xs, h => by
    rw [D.py, PyData.canLay0]
    exact pyL_lay xs (by simpa [D.fine] using h)
  | .tup xs, h => by
    rw [D.py, PyData.canLay0]
    exact pyL_lay xs (by simpa [D.fine] using h)
  | .dic _, h => by simp [D.fine] at h
  | .obj _ _, h => by simp [D.fine] at h
  | .bag, h => by simp [D.fine] at h
  | .ktup _, h => by simp [D.fine] at h
theorem pyL_lay : ∀ ds : List D, fineL ds = true → PyData.canLayAll0 (pyL ds) = true
  | [], _ => rfl
  | x :: xs, h => by
    have h' : x.fine = true ∧ fineL xs = true := by simpa [fineL] using h
    rw [pyL, PyData.canLayAll0, py_lay x h'.1, pyL_lay xs h'.2]
    rfl
end
mutual
theorem py_show : ∀ d : D, d.fine = true → d.py.showable = true
  | .non, _ => rfl
  | .bl _, _ => rfl
  | .int i, h => by simpa [D.py, PyData.showable, D.fine] using h
  | .str x, h => rfl
  | .lst xs, h => by
    rw [D.py, PyData.showable]
    exact pyL_show xs (by simpa [D.fine] using h)
  | .tup xs, h => by
    rw [D.py, PyData.showable]
    exact pyL_show xs (by simpa [D.fine] using h)
  | .dic _, h => by simp [D.fine] at h
  | .obj _ _, h => by simp [D.fine] at h
  | .bag, h => by simp [D.fine] at h
  | .ktup _, h => by simp [D.fine] at h
theorem pyL_show : ∀ ds : List D, fineL ds = true → PyData.showableAll (pyL ds) = true
  | [], _ => rfl
  | x :: xs, h => by
    have h' : x.fine = true ∧ fineL xs = true := by simpa [fineL] using h
    rw [pyL, PyData.showableAll, py_show x h'.1, pyL_show xs h'.2]
    rfl
end
mutual
theorem py_dep : ∀ d : D, d.fine = true → d.py.depth ≤ d.dep
  | .non, _ => by simp [D.py, PyData.depth]
  | .bl _, _ => by simp [D.py, PyData.depth]
  | .int _, _ => by simp [D.py, PyData.depth]
  | .str x, h => by simp [D.py, PyData.depth]
  | .lst xs, h => by
    have := pyL_dep xs (by simpa [D.fine] using h)
    rw [D.py, PyData.depth, D.dep]
    omega
  | .tup xs, h => by
    have := pyL_dep xs (by simpa [D.fine] using h)
    rw [D.py, PyData.depth, D.dep]
    omega
  | .dic _, h => by simp [D.fine] at h
  | .obj _ _, h => by simp [D.fine] at h
  | .bag, h => by simp [D.fine] at h
  | .ktup _, h => by simp [D.fine] at h
theorem pyL_dep : ∀ ds : List D, fineL ds = true → PyData.depthAll (pyL ds) ≤ depL ds
  | [], _ => by simp [pyL, PyData.depthAll]
  | x :: xs, h => by
    have h' : x.fine = true ∧ fineL xs = true := by simpa [fineL] using h
    have h1 := py_dep x h'.1
    have h2 := pyL_dep xs h'.2
    rw [pyL, PyData.depthAll, depL]
    omega
end
theorem textFrom_up : ∀ (ts : List Str) (k : Nat) (acc : Str), (textFrom k acc ts).length ≤ acc.length + (ts.map fun t => t.length + 2).sum
  | [], k, acc => by simp [textFrom]
  | t :: r, k, acc => by
    have ih := textFrom_up r (k + 1) (acc ++ (if k > 0 then ", " else "" : String) ++ t)
    rw [textFrom]
    have e : (acc ++ (if k > 0 then ", " else "" : String) ++ t).length ≤ acc.length + 2 + t.length := by
      rw [strLen_append, strLen_append]
      by_cases hk : k > 0
      · rw [if_pos hk]
        have e2 : ((", " : String) : Str).length = 2 := rfl
        omega
      · rw [if_neg hk]
        have e2 : (("" : String) : Str).length = 0 := rfl
        omega
    rw [List.map_cons, List.sum_cons]
    omega
theorem listText_up (ts : List Str) : (listText ts).length ≤ (ts.map fun t => t.length + 2).sum + 2 := by
  unfold listText
  rw [strLen_append]
  have h := textFrom_up ts 0 "["
  have e1 : (("[" : String) : Str).length = 1 := rfl
  have e2 : (("]" : String) : Str).length = 1 := rfl
  omega
theorem join_up : ∀ ts : List Str, (Str.join ", " ts).length ≤ (ts.map fun t => t.length + 2).sum
  | [] => by simp [Str.join]; rfl
  | [x] => by
    show x.length ≤ _
    simp
  | x :: y :: r => by
    have ih := join_up (y :: r)
    show (x ++ ", " ++ Str.join ", " (y :: r)).length ≤ _
    rw [strLen_append, strLen_append, List.map_cons, List.sum_cons]
    have e2 : ((", " : String) : Str).length = 2 := rfl
    omega
theorem tupleText_up (ts : List Str) : (tupleText ts).length ≤ (ts.map fun t => t.length + 2).sum + 3 := by
  unfold tupleText
  rw [strLen_append, strLen_append]
  have h := join_up ts
  have e1 : (("(" : String) : Str).length = 1 := rfl
  by_cases hk : (ts.length == 1) = true
  · rw [if_pos hk]
    have e2 : ((",)" : String) : Str).length = 2 := rfl
    omega
  · rw [if_neg hk]
    have e2 : ((")" : String) : Str).length = 1 := rfl
    omega
theorem strOk_lt {x : Str} (h : PyData.strOk x = true) : ∀ c ∈ x.cps.toList, c < 16 ^ 8 := fun c hc => by
  unfold PyData.strOk at h
  rw [← Array.all_toList, List.all_eq_true] at h
  have := of_decide_eq_true (h c hc)
  omega
theorem int_text_len {i : Int} (h : i.natAbs.log2 < 1920) : (Str.ofString (toString i)).length ≤ 2000 := by
  rw [PySem.ofString_length]
  have := int_text_length_le (by decide) h
  omega
mutual
theorem py_len : ∀ d : D, d.fine = true → d.py.shown.length ≤ d.wt
  | .non, _ => by decide +kernel
  | .bl b, _ => by cases b <;> decide +kernel
  | .int i, h => by
    rw [D.py, PyData.shown, D.wt]
    exact int_text_len (by simpa [D.fine] using h)
  | .str x, h => by
    rw [D.py, PyData.shown, D.wt]
    exact StrLaws.reprText_len x (strOk_lt (by simpa [D.fine] using h))
  | .lst xs, h => by
    have := pyL_len xs (by simpa [D.fine] using h)
    have h2 := listText_up (PyData.shownAll (pyL xs))
    rw [D.py, PyData.shown, D.wt]
    omega
  | .tup xs, h => by
    have := pyL_len xs (by simpa [D.fine] using h)
    have h2 := tupleText_up (PyData.shownAll (pyL xs))
    rw [D.py, PyData.shown, D.wt]
    omega
  | .dic _, h => by simp [D.fine] at h
  | .obj _ _, h => by simp [D.fine] at h
  | .bag, h => by simp [D.fine] at h
  | .ktup _, h => by simp [D.fine] at h
theorem pyL_len : ∀ ds : List D, fineL ds = true → ((PyData.shownAll (pyL ds)).map fun t => t.length + 2).sum ≤ wtL ds
  | [], _ => by simp [pyL, PyData.shownAll]
  | x :: xs, h => by
    have h' : x.fine = true ∧ fineL xs = true := by simpa [fineL] using h
    have h1 := py_len x h'.1
    have h2 := pyL_len xs h'.2
    rw [pyL, PyData.shownAll, wtL, List.map_cons, List.sum_cons]
    omega
end
section
variable {K : PySem.W.Frag} {B : Bx} {G H : Hp}
mutual
theorem dat_dp (e : Ex G H) : ∀ {v : V} {d : D}, Dat K B G v d → d.fine = true → Dp K H v d.py
  | _, _, .non, _ => .non
  | _, _, .bl b, _ => .bl b
  | _, _, .int i, _ => .int i
  | _, _, .str x, _ => .str x
  | _, _, .lst h t, f => by
    rw [D.py]
    exact .lst (sq_of (e _ _ h)) (dats_dp e t (by simpa [D.fine] using f))
  | _, _, .tup h t, f => by
    rw [D.py]
    exact .tup (tx e h) (dats_dp e t (by simpa [D.fine] using f))
  | _, _, .dK h t, f => by simp [D.fine] at f
  | _, _, .dT h t, f => by simp [D.fine] at f
  | _, _, .ktup h t, f => by simp [D.fine] at f
  | _, _, .bag, f => by simp [D.fine] at f
  | _, _, .obj _ _ _, f => by simp [D.fine] at f
theorem dats_dp (e : Ex G H) : ∀ {v : List V} {d : List D}, Dats K B G v d → fineL d = true → DpAll K H v (pyL d)
  | _, _, .nil, _ => .nil
  | _, _, .cons h t, f => by
    have f' := (Bool.and_eq_true_iff.mp (show (D.fine _ && fineL _) = true by rw [fineL] at f; exact f))
    rw [pyL]
    exact .cons (dat_dp e h f'.1) (dats_dp e t f'.2)
end
end
def eqb (x y : D) : Bool := PyData.eqv x.py y.py
theorem eqb_refl {x : D} (h : x.fine = true) : eqb x x = true := SeqAt.eqv_refl _ (py_lay x h)
def plain (x : D) : Bool := x.fine && decide (x.dep ≤ 64)
theorem plain_shaped {x : D} (h : plain x = true) : SeqAt.shaped x.py = true := by
  have h' := Bool.and_eq_true_iff.mp h
  have h2 := py_dep x h'.1
  have h3 : x.dep ≤ 64 := of_decide_eq_true h'.2
  unfold SeqAt.shaped
  rw [py_lay x h'.1, decide_eq_true (by omega : x.py.depth ≤ 64)]
  rfl
def oEq : O2 := fun x y Q => match x, y with
  | .str a, .str b => Q (.bl (decide (a = b)))
  | .int a, .int b => Q (.bl (decide (a = b)))
  | .bl a, .bl b => Q (.bl (a == b))
  | x, y => (plain x = true ∧ plain y = true) ∧ Q (.bl (eqb x y))
def oNe : O2 := fun x y Q => match x, y with
  | .str a, .str b => Q (.bl (!decide (a = b)))
  | .int a, .int b => Q (.bl (!decide (a = b)))
  | .bl a, .bl b => Q (.bl (!(a == b)))
  | x, y => (plain x = true ∧ plain y = true) ∧ Q (.bl (!eqb x y))
theorem dec_str_v {a b : Str} : decide (V.str a = V.str b) = decide (a = b) := by
  by_cases e : a = b
  · subst e; simp
  · rw [decide_eq_false e, decide_eq_false fun z => e (V.str.inj z)]
theorem dec_int_v {a b : Int} : decide (V.int a = V.int b) = decide (a = b) := by
  by_cases e : a = b
  · subst e; simp
  · rw [decide_eq_false e, decide_eq_false fun z => e (V.int.inj z)]
theorem op_eq_d {X : Cx} {B : Bx} (hu : X.A.units + 64 < cLine) : OpR X (compareOp .Eq) (rLift X.K B oEq) := by
  intro pins s σ H x y v u P I rx ry h
  obtain ⟨G, dx, dy, Q, j, hx, hy, hq, k⟩ := h
  have gen : (plain dx = true ∧ plain dy = true) ∧ Q (.bl (eqb dx dy)) → wpAny (model X.prog X.w) X.A (compareOp .Eq v u) (EP X pins σ P) X.xe s := fun ⟨⟨px, py⟩, q⟩ =>
    op_eqD hu pins s σ H x y v u P I rx ry ⟨dx.py, dy.py, dat_dp j.ex hx (Bool.and_eq_true_iff.mp px).1, dat_dp j.ex hy (Bool.and_eq_true_iff.mp py).1, plain_shaped px, plain_shaped py, k _ _ G H q (Gr.refl j) (.bl _)⟩
  cases hx with
  | str a =>
    cases hy with
    | str b =>
      refine op_eq pins s σ H _ _ v u P I rx ry ⟨rfl, ?_⟩
      rw [dec_str_v]
      exact k _ _ G H hq (Gr.refl j) (.bl _)
    | _ => exact gen hq
  | int a =>
    cases hy with
    | int b =>
      refine op_eq pins s σ H _ _ v u P I rx ry ⟨rfl, ?_⟩
      rw [dec_int_v]
      exact k _ _ G H hq (Gr.refl j) (.bl _)
    | _ => exact gen hq
  | bl a =>
    cases hy with
    | bl b =>
      refine op_eq pins s σ H _ _ v u P I rx ry ⟨rfl, ?_⟩
      rw [dec_bl]
      exact k _ _ G H hq (Gr.refl j) (.bl _)
    | _ => exact gen hq
  | _ => exact gen hq
theorem op_ne_d {X : Cx} {B : Bx} (hu : X.A.units + 64 < cLine) : OpR X (compareOp .NotEq) (rLift X.K B oNe) := by
  intro pins s σ H x y v u P I rx ry h
  obtain ⟨G, dx, dy, Q, j, hx, hy, hq, k⟩ := h
  have gen : (plain dx = true ∧ plain dy = true) ∧ Q (.bl (!eqb dx dy)) → wpAny (model X.prog X.w) X.A (compareOp .NotEq v u) (EP X pins σ P) X.xe s := fun ⟨⟨px, py⟩, q⟩ =>
    op_neD hu pins s σ H x y v u P I rx ry ⟨dx.py, dy.py, dat_dp j.ex hx (Bool.and_eq_true_iff.mp px).1, dat_dp j.ex hy (Bool.and_eq_true_iff.mp py).1, plain_shaped px, plain_shaped py, k _ _ G H q (Gr.refl j) (.bl _)⟩
  cases hx with
  | str a =>
    cases hy with
    | str b =>
      refine op_ne pins s σ H _ _ v u P I rx ry ⟨rfl, ?_⟩
      rw [dec_str_v]
      exact k _ _ G H hq (Gr.refl j) (.bl _)
    | _ => exact gen hq
  | int a =>
    cases hy with
    | int b =>
      refine op_ne pins s σ H _ _ v u P I rx ry ⟨rfl, ?_⟩
      rw [dec_int_v]
      exact k _ _ G H hq (Gr.refl j) (.bl _)
    | _ => exact gen hq
  | bl a =>
    cases hy with
    | bl b =>
      refine op_ne pins s σ H _ _ v u P I rx ry ⟨rfl, ?_⟩
      rw [dec_bl]
      exact k _ _ G H hq (Gr.refl j) (.bl _)
    | _ => exact gen hq
  | _ => exact gen hq
def cRepr : FD := fun ds Q => match ds with
  | [d] => (plain d = true ∧ d.wt ≤ 16000000) ∧ Q (.str d.py.shown)
  | _ => False
theorem call_repr_d {X : Cx} {B : Bx} (hg : X.A.guards = some []) (hu : X.A.units + 70 < cLine) : CallR X (.builtin "repr") (cLift X.K B cRepr) := by
  intro pins s σ H vs us P I rv h
  obtain ⟨G, ds, Q, j, hd, hq, k⟩ := h
  cases hd with
  | nil => exact hq.elim
  | cons h1 h2 =>
    cases h2 with
    | cons _ _ => exact hq.elim
    | nil =>
      rename_i v d
      obtain ⟨⟨hp, hw⟩, hq⟩ := hq
      have hf := (Bool.and_eq_true_iff.mp hp).1
      have hdep : d.dep ≤ 64 := of_decide_eq_true (Bool.and_eq_true_iff.mp hp).2
      have hdep2 := py_dep d hf
      have hz : d.py.shown.length ≤ sizeLine := Nat.le_trans (py_len d hf) (Nat.le_trans hw (by decide))
      have kk := k _ _ G H hq (Gr.refl j) (.str _)
      cases rv with
      | cons r1 r2 =>
        cases r2
        cases h1 with
        | non =>
          cases r1
          exact PySem.P.repr_of_none ⟨.str _, H, I.tok _, ⟨_, rfl⟩, kk⟩
        | bl b =>
          cases r1
          refine PySem.P.repr_of_bool ⟨.str _, H, I.tok _, ⟨_, rfl⟩, ?_⟩
          rw [D.py, PyData.shown] at kk
          cases b <;> exact kk
        | int i =>
          obtain ⟨t, rfl⟩ := r1
          exact PySem.P.repr_of_int (by simpa [D.fine] using hf) ⟨.str _, H, I.tok _, ⟨_, rfl⟩, kk⟩
        | str x =>
          obtain ⟨t, rfl⟩ := r1
          exact PySem.P.repr_of_str ⟨.str _, H, I.tok _, ⟨_, rfl⟩, kk⟩ hz
        | lst a1 a2 =>
          obtain ⟨as, hr⟩ := Dp.reads I _ _ _ (dat_dp j.ex (.lst a1 a2) hf) r1
          cases r1
          exact repr_of_reads' hr (py_show _ hf) (PyData.noDict_hsm (PyData.hasDict_of_canLay _ (py_lay _ hf))) hg (by omega) (fun _ _ e => e) (fun h' u tk hk => ⟨.str _, H, I.kept hk, ⟨_, rfl⟩, kk⟩) hz
        | tup a1 a2 =>
          obtain ⟨as, hr⟩ := Dp.reads I _ _ _ (dat_dp j.ex (.tup a1 a2) hf) r1
          cases r1
          exact repr_of_reads' hr (py_show _ hf) (PyData.noDict_hsm (PyData.hasDict_of_canLay _ (py_lay _ hf))) hg (by omega) (fun _ _ e => e) (fun h' u tk hk => ⟨.str _, H, I.kept hk, ⟨_, rfl⟩, kk⟩) hz
        | _ => simp [D.fine] at hf
end DL
namespace DL
open PySem PySem.Spec PyProof.Rows L2 Evl
structure FnG (P : Program) (w : World) (K : PySem.W.Frag) (mg : Str → Option Value) (base : Heap) (CX : CXT) (k : Nat) (f : Addr) (fd : FuncData) (ps : List Str) (sp : Sp) : Prop where
  len : ∀ vs H Q E, sp vs H Q E → vs.length = ps.length
  go : ∀ (A : Around) (fr : List Env) (s : Shared) (H : Hp) (args : Args) (us : List Value) (vs : List V) (Q : VK) (E : XK), A.guards = some [] → Room k A → Env0 P w K mg base A fr s H → BindsTo s fd args (ps.zip us) → Vals vs us → sp vs H Q E →
    codeAny (model P w) A (.call (.ref f) args) (CR CX fr P w H s Q E) s
section
variable {P : Program} {w : World} {K : PySem.W.Frag} {mg : Str → Option Value} {base : Heap} {CX : CXT} {f : Addr} {fd : FuncData} {ps : List Str} {sp : Sp} {k : Nat}
theorem FnG.mono {j : Nat} (F : FnG P w K mg base CX j f fd ps sp) (h : j ≤ k) : FnG P w K mg base CX k f fd ps sp :=
  ⟨F.len, fun A fr s H args us vs Q E hg hr => F.go A fr s H args us vs Q E hg (hr.mono h)⟩
theorem fng_of {x qual : Str} {st : Stmt} {N : List Str} (F : Fun K x qual st f fd) (S : FnScope N ps (defScope st)) (len : ∀ vs H Q E, sp vs H Q E → vs.length = ps.length)
    (hbody : ∀ (cdv : Value) (A : Around) (fr : List Env) (s : Shared) (H : Hp) (vs : List V) (Q : VK) (E : XK), A.guards = some [] → Room k (A.deeper (envOfC qual (defScope st) s.heap.objs.size f cdv)) → sp vs H Q E →
      ∃ t, PSs (cxOf CX P w K mg base N qual (defScope st) f cdv A fr s H E) (defBody st) t ∧ t { nx := fun _ H' => Q .non H', rt := Q } (L2.start N vs) H) : FnG P w K mg base CX (k + 1) f fd ps sp := by
  obtain ⟨oc, od, kV, doc, pm, an, cdv, ct, osl, rfl, lk, hcd⟩ := F.ex
  refine ⟨len, fun A fr s H args us vs Q E hgd room env bnd rel hsp => ?_⟩
  have inK : K.In s.heap := env.mod.kin.keeps fun b o z => (env.bs b o z).1
  have noLim : s.heap.NoLimit := env.mod.nolimit.keeps fun b o z => (env.bs b o z).1
  refine codeAny_call_function room.depth (inK _ _ lk) rfl S.co S.gen rfl (PySem.W.codeRec_of inK hcd) (bnd _ _ _ _ ?_)
  refine wpAny_newFunctionEnv_cells S.kind (fun ⟨n, v⟩ hy => (S.par n (List.of_mem_zip hy).1).elim .inl fun z => .inr ⟨z, PySem.W.cellsFrom_some _ _ _ (.inl z)⟩) fun _ hEnv s1 born => ?_
  subst hEnv
  refine ⟨noLim.keeps born.toInCall.keep, codeAny_func ?_⟩
  obtain ⟨t, ht, hw⟩ := hbody cdv A fr s H vs Q E hgd (room.deeper _) hsp
  have I := inv_start (CX := CX) (E := E) S room.hd env (len _ _ _ _ hsp) rel born
  refine wpAny_mono (ht.run [] s1 _ H _ I hw) (fun fl s' hs => ?_) fun _ _ z => z
  cases fl with
  | next =>
    obtain ⟨σ', H', J, q⟩ := hs
    exact ⟨.non, H', J.os, J.bare, J.base, J.hok, rfl, q⟩
  | ret u =>
    obtain ⟨v, σ', H', J, rv, q⟩ := hs
    exact ⟨v, H', J.os, J.bare, J.base, J.hok, rv, q⟩
  | brk => exact hs.elim fun _ z => z.elim fun _ y => y.2.elim
  | cont => exact hs.elim fun _ z => z.elim fun _ y => y.2.elim
/-- the promise over data -/
theorem fng_d {x qual : Str} {st : Stmt} {N : List Str} {B : Bx} {S : FD} {t : DTS} (F : Fun K x qual st f fd) (Sc : FnScope N ps (defScope st)) (len : ∀ ds Q, S ds Q → ds.length = ps.length)
    (hbody : ∀ (cdv : Value) (A : Around) (fr : List Env) (s : Shared) (H : Hp) (E : XK), A.guards = some [] → Room k (A.deeper (envOfC qual (defScope st) s.heap.objs.size f cdv)) → PSsD (cxOf CX0 P w K mg base N qual (defScope st) f cdv A fr s H E).nox B (defBody st) t)
    (vc : ∀ ds Q, S ds Q → t { nx := fun _ => Q .non, rt := Q } (startD N.length ds)) : FnG P w K mg base CX0 (k + 1) f fd ps (spD K B S) := by
  refine fng_of F Sc (fun vs H Q E h => ?_) (fun cdv A fr s H vs Q E hg hr h => ⟨_, (hbody cdv A fr s H E hg hr).nox, ?_⟩)
  · obtain ⟨G, ds, R, j, hd, hs, _⟩ := h
    rw [hd.len]
    exact len ds R hs
  · obtain ⟨G, ds, R, j, hd, hs, kk⟩ := h
    refine ⟨G, H, G, startD N.length ds, _, Gr.refl j, start_ok hd, vc ds R hs, ⟨?_, ?_, ?_, ?_, ?_, ?_, ?_⟩⟩
    · exact fun σ δ G2 H2 q g _ s2 => kk .non .non G2 H2 q g .non
    · exact fun σ δ G2 H2 q g _ s2 => q.elim
    · exact fun σ δ G2 H2 q g _ s2 => q.elim
    · exact fun d v G2 H2 q g _ hd => kk d v G2 H2 q g hd
    · exact fun o v f G2 H2 q => q.elim
    · exact fun σ' δ'' d v G2 H2 q => q.elim
    · exact fun q' vs' os f G2 H2 q => q.elim
end
section
variable {X : Cx} {B : Bx} {CX : CXT} {k : Nat} {f : Addr} {fd : FuncData} {ps : List Str} {S : FD} {x : Str} {E : XK} {e : Expr} {es : List Expr} {pos fp : Pos}
theorem runG {sp : Sp} {pins : List (Addr × Obj)} {σ : L2.St} {H : Hp} {s : Shared} {Q : VK} {us : List Value} {vs : List V} (F : FnG X.prog X.w X.K X.mg X.base CX k f fd ps sp) (hgd : X.A.guards = some []) (hr : Room k X.A) (hb : Binds X.K fd ps []) (hx : Passes CX X E)
    (I : Inv X pins σ H s) (r : Vals vs us) (h : sp vs H Q E) : wpAny (model X.prog X.w) X.A (call (.ref f) us) (EP X pins σ Q) X.xe s := by
  have hl : (us ++ []).length = ps.length := by rw [List.append_nil, ← r.length]; exact F.len _ _ _ _ h
  have hbb := hb s us I.kIn hl
  rw [List.append_nil] at hbb
  refine wpAny_call (codeAny_mono (F.go X.A X.stack s H ⟨us, []⟩ us vs Q E hgd hr I.env0 hbb r h) fun res s' hq => ?_)
  match res, hq with
  | .error err, hq => exact hx pins σ H s err s' I hq
  | .ok (.ret u), hq => exact I.after hq
theorem pd_callG {ra : DA} (F : FnG X.prog X.w X.K X.mg X.base CX k f fd ps (spD X.K B S)) (hgd : X.A.guards = some []) (hr : Room k X.A) (hg : Gl X x) (hm : X.mg x = some (.ref f)) (hk : PySem.W.keepIn X.K (.ref f) = true)
    (hb : Binds X.K fd ps []) (hx : Passes CX X E) (ha : PAD X B (e :: es) ra) (hd : (x == ("__debug__" : Str)) = false := by decide) (he : starEach (e :: es) X.env = (false, eval e X.env) :: starEach es X.env := by rfl) (hpl : (backTo pos (starEach es X.env)).any (·.1) = false := by rfl) :
    PD X B (.Call (.Name x fp) (e :: es) [] pos) (dCall S ra) :=
  ⟨fun pins s σ H Q I q => wpAny_Call_Name_kw (ld_glob I hg hm (PySem.W.callWith_K (h₀ := X.base) I.ok.mod.kin hk (thn (ha.run pos pins s σ H _ I (liftC q)) fun us s1 ⟨vs, H1, I1, r, q1⟩ => ⟨I1.kIn, runG (E := E) F hgd hr hb hx I1 r q1⟩) he hpl) hd)⟩
end
theorem law_run {P : Program} {w : World} {K : PySem.W.Frag} {mg mb : Str → Option Value} {k : Nat} {fa a : Addr} {fd : FuncData} {x : Str} {sp : Sp} {s1 : Shared} {vs : List Value} {ns : List Int}
    (KX : K.In s1.heap) (hns : s1.heap.Ns mainGlobals mg) (hb : s1.heap.Ns builtinsNs mb) (hbb : ∀ x : Str, x ≠ "__name__" → mb x = bootBuiltins x) (hlim : s1.heap.NoLimit) (hgens : s1.gens = #[])
    (ha : s1.heap.get? a = some { cls := .type "list", data := .seq vs.toArray }) (hi : IntsAre vs ns) (hl : ns.length ≤ sizeLine) (room : Room k callerA)
    (F : ∀ base : Heap, K.In base → base.Ns mainGlobals mg → FnG P w K mg base CX0 k fa fd [x] sp) (hbind : ∀ (s : Shared) (u : Value), BindsTo s fd ⟨[u], []⟩ [(x, u)])
    (hsp : ∀ H : Hp, SqL K H a (ns.map V.int) → sp [.ref a] H (fun v _ => v = .bl true) fun _ _ _ => False) :
    codeAny (model P w) callerA (.call (.ref fa) ⟨[.ref a], []⟩) (fun r s' => r = .ok (.ret (.bool true)) ∧ OldK s1.heap s'.heap ∧ s'.os = s1.os ∧ AllBare s'.gens) s1 := by
  let o : Obj := { cls := .type "list", data := .seq vs.toArray }
  have rel := vals_of_ints hi
  -- the script is locked, unless it is one of the module's own things
  obtain ⟨H, only, seen, held⟩ : ∃ H : Hp, (∀ b, H b = none ∨ (b = a ∧ K.lookup a = none ∧ H b = some (.frz o (.lst (ns.map V.int))))) ∧ SqL K H a (ns.map V.int) ∧ HOk P w H s1.heap := by
    cases hk : K.lookup a with
    | some u =>
      have z := KX a u hk
      rw [ha] at z
      cases z
      exact ⟨fun _ => none, fun _ => .inl rfl, .inr ⟨_, vs.toArray, _, hk, rfl, rfl, rfl, by rw [List.size_toArray, hi.length]; exact hl, rel⟩, fun _ _ z => nomatch z⟩
    | none =>
      refine ⟨upd (fun _ => none) a (.frz o (.lst (ns.map V.int))), fun b => ?_, .inl (.inr ⟨o, upd_same⟩), fun b u z => ?_⟩
      · by_cases hba : b = a
        · subst hba; exact .inr ⟨rfl, rfl, upd_same⟩
        · exact .inl (upd_ne hba)
      · by_cases hba : b = a
        · subst hba
          rw [upd_same] at z
          cases z
          exact ⟨ha, by rw [List.length_map]; exact hl, vs, _, rel, ha⟩
        · rw [upd_ne hba] at z; cases z
  have free : ∀ {b : Addr} {u : Obj}, s1.heap.get? b = some u → (∃ es ep, u.data = .dict es ep) ∨ K.lookup b = some u → H b = none := fun {b u} e z => by
    rcases only b with q | ⟨rfl, hk, _⟩
    · exact q
    · rcases z with ⟨es, ep, z⟩ | z
      · rw [ha] at e; cases e; cases z
      · rw [hk] at z; cases z
  have ns_ : ∀ {b : Addr} {m : Str → Option Value}, s1.heap.Ns b m → (hidT s1.heap H).Ns b m := fun {b m} ⟨u, es, ep, e, d, r⟩ => ⟨u, es, ep, hidT_get e (free e (.inl ⟨es, ep, d⟩)), d, r⟩
  have kin : K.In (hidT s1.heap H) := fun b u e => hidT_get (KX b u e) (free (KX b u e) (.inr e))
  have md : Mod K mg (hidT s1.heap H) := ⟨kin, ns_ hns, ⟨mb, ns_ hb, hbb⟩, hlim.elim fun m z => ⟨m, ns_ z.1, z.2⟩⟩
  have env : Env0 P w K mg (hidT s1.heap H) callerA [] s1 H := ⟨rfl, md, fun _ _ e => of_hidT e, Nat.le_of_eq (hidT_size _ _), trivial, (fun b z => nomatch (show b ∈ ([] : List Addr) from z)), held, .of_eq hgens⟩
  refine codeAny_mono ((F _ kin (ns_ hns)).go callerA [] s1 H ⟨[.ref a], []⟩ [.ref a] [.ref a] _ _ rfl room env (hbind s1 (.ref a)) (.cons rfl .nil) (hsp H seen)) fun r s' h => ?_
  match r, h with
  | .error e, h => exact h.elim
  | .ok (.ret u), h =>
    obtain ⟨v, H', os, bare, un, held', r', q⟩ := h
    have q' : v = .bl true := q
    subst q'
    obtain rfl : u = Value.bool true := r'
    refine ⟨rfl, OldK.of_keep fun b ob e => ?_, os, bare⟩
    rcases only b with q | ⟨rfl, _, q⟩
    · exact un.keep b ob e q (fun z => nomatch (show b ∈ ([] : List Addr) from z)) (fun z => nomatch z)
    · have z2 := un.frzs b o _ q
      rw [ha] at e
      cases e
      exact (held' b _ z2).1
theorem walk_g {l : PySem.W.OpenLaw} {n k : Nat} {q : Program} {loose : List Str} {XP : (Str → Option Value) → Heap → Prop} {YP : World → Heap → Prop} {d : DefRec} {K : Params → PySem.W.Frag} {sp : World → Sp} {x : Str}
    (hn : l.most = some n) (hn2 : n ≤ sizeLine) (hdf : d.params.defaults = []) (hr : Room k callerA) (hY : ∀ (w : World) (h : Heap), YP w h → (K w.params).In h)
    (F : ∀ (w : World) (mg : Str → Option Value) (fa : Addr) (h : Heap), (K w.params).In h → h.Ns mainGlobals mg → mg d.name = some (.ref fa) →
      ∃ fd : FuncData, (∀ (s : Shared) (u : Value), BindsTo s fd ⟨[u], []⟩ [(x, u)]) ∧ ∀ base : Heap, (K w.params).In base → base.Ns mainGlobals mg → FnG l.prog w (K w.params) mg base CX0 k fa fd [x] (sp w))
    (hsp : ∀ (w : World) (H : Hp) (a : Addr) (ns : List Int), ns.length ≤ n → (∀ z ∈ ns, Builtin.Int.intBits z ≤ 1048576) → SqL (K w.params) H a (ns.map V.int) → sp w [.ref a] H (fun v _ => v = .bl true) fun _ _ _ => False) :
    PySem.W.WalkO q loose XP YP l.row.toRowW d [] (fun f vs => PySem.call f vs) :=
  Att.attach_callB hn hdf fun w _ s1 mg mb fa _ _ _ _ a vs ns G Y _ _ _ hmg hobj hints hlen hbits hg => by
    have KX := hY w _ Y
    obtain ⟨fd, hb, hF⟩ := F w mg fa _ KX G.T.g hmg
    exact law_run KX G.T.g G.T.b G.T.builtins G.T.nolimit hg hobj hints (Nat.le_trans hlen hn2) hr hF hb fun H hS => hsp w H a ns hlen hbits hS
end DL
namespace DL
open PySem PySem.Spec PyProof.Rows L2 Evl
section
variable {X : Cx} {B : Bx}
def oI (f : Int → Int → D) : O2 := fun x y Q => match x, y with
  | .int i, .int j => Q (f i j)
  | _, _ => False
def oIc (c : Int → Int → Prop) (f : Int → Int → D) : O2 := fun x y Q => match x, y with
  | .int i, .int j => c i j ∧ Q (f i j)
  | _, _ => False
theorem op_int {g : Value → Value → Sem Value} {f : Int → Int → V} {f' : Int → Int → D} (h : OpR X g (rI0 f)) (hf : ∀ G i j, Dat X.K B G (f i j) (f' i j)) : OpR X g (rLift X.K B (oI f')) := by
  intro pins s σ H x y v u P I rx ry q
  obtain ⟨G, dx, dy, Q, j, hx, hy, hq, k⟩ := q
  cases hx with
  | int a =>
    cases hy with
    | int b => exact h pins s σ H _ _ v u P I rx ry ⟨a, b, rfl, rfl, k _ _ G H hq (Gr.refl j) (hf G a b)⟩
    | _ => exact hq.elim
  | _ => exact hq.elim
theorem op_intc {g : Value → Value → Sem Value} {c : Int → Int → Prop} {f : Int → Int → V} {f' : Int → Int → D} (h : OpR X g (rI c f)) (hf : ∀ G i j, Dat X.K B G (f i j) (f' i j)) : OpR X g (rLift X.K B (oIc c f')) := by
  intro pins s σ H x y v u P I rx ry q
  obtain ⟨G, dx, dy, Q, j, hx, hy, hq, k⟩ := q
  cases hx with
  | int a =>
    cases hy with
    | int b => exact h pins s σ H _ _ v u P I rx ry ⟨a, b, rfl, rfl, hq.1, k _ _ G H hq.2 (Gr.refl j) (hf G a b)⟩
    | _ => exact hq.elim
  | _ => exact hq.elim
def oSub : O2 := oI fun i j => .int (i - j)
def oMod : O2 := oIc (fun _ j => 0 < j) fun i j => .int (i % j)
def oDiv : O2 := oIc CDivW fun i j => .int (i / j)
def oLt : O2 := oI fun i j => .bl (decide (i < j))
def oLe : O2 := oI fun i j => .bl (decide (i ≤ j))
def oGt : O2 := oI fun i j => .bl (decide (j < i))
def oGe : O2 := oI fun i j => .bl (decide (j ≤ i))
theorem op_sub_d : OpR X (binaryOp .Sub) (rLift X.K B oSub) := op_int op_sub fun _ _ _ => .int _
theorem op_mod_d : OpR X (binaryOp .Mod) (rLift X.K B oMod) := op_intc op_mod fun _ _ _ => .int _
theorem op_lt_d : OpR X (compareOp .Lt) (rLift X.K B oLt) := op_int op_lt fun _ _ _ => .bl _
theorem op_le_d : OpR X (compareOp .LtE) (rLift X.K B oLe) := op_int op_le fun _ _ _ => .bl _
theorem op_gt_d : OpR X (compareOp .Gt) (rLift X.K B oGt) := op_int op_gt fun _ _ _ => .bl _
def oNeg : O1 := fun x Q => match x with
  | .int i => Q (.int (-i))
  | _ => False
def oAdd : O2 := fun x y Q => match x, y with
  | .int i, .int j => Q (.int (i + j))
  | .str a, .str b => a.length + b.length ≤ sizeLine ∧ Q (.str (a ++ b))
  | .lst xs, .lst ys => xs.length + ys.length ≤ sizeLine ∧ Q (.lst (xs ++ ys))
  | .tup xs, .tup ys => (xs ≠ [] ∧ xs.length + ys.length ≤ sizeLine) ∧ Q (.tup (xs ++ ys))
  | _, _ => False
theorem op_add_d : OpR X (binaryOp .Add) (rLift X.K B oAdd) := by
  intro pins s σ H x y v u P I rx ry q
  obtain ⟨G, dx, dy, Q, j, hx, hy, hq, k⟩ := q
  cases hx with
  | int a =>
    cases hy with
    | int b => exact op_add pins s σ H _ _ v u P I rx ry ⟨a, b, rfl, rfl, k _ _ G H hq (Gr.refl j) (.int _)⟩
    | _ => exact hq.elim
  | str a =>
    cases hy with
    | str b => exact op_add_str pins s σ H _ _ v u P I rx ry ⟨a, b, rfl, rfl, hq.1, k _ _ G H hq.2 (Gr.refl j) (.str _)⟩
    | _ => exact hq.elim
  | lst h1 t1 =>
    cases hy with
    | lst h2 t2 =>
      refine op_cat pins s σ H _ _ v u P I rx ry ⟨_, _, _, _, rfl, rfl, j.ex _ _ h1, j.ex _ _ h2, by rw [t1.len, t2.len]; exact hq.1, fun p hp => ?_⟩
      exact k _ _ (upd G p _) _ hq.2 (Gr.new j hp) (.lst upd_same ((t1.append t2).mono (Ex.new (fresh_back j.ex hp))))
    | _ => exact hq.elim
  | tup h1 t1 =>
    cases hy with
    | tup h2 t2 =>
      obtain ⟨⟨n1, n2⟩, hq⟩ := hq
      refine op_catT pins s σ H _ _ v u P I rx ry ⟨_, _, _, _, rfl, rfl, tx j.ex h1, tx j.ex h2, fun z => ?_, by rw [t1.len, t2.len]; exact n2, fun z => ?_, fun _ p hp => ?_⟩
      · subst z; cases t1; exact n1 rfl
      · subst z; cases t2; rw [List.append_nil] at hq; exact k _ _ G H hq (Gr.refl j) (.tup h1 t1)
      · exact k _ _ (upd G p _) _ hq (Gr.new j hp) (.tup upd_same ((t1.append t2).mono (Ex.new (fresh_back j.ex hp))))
    | _ => exact hq.elim
  | _ => exact hq.elim
def repS (x : Str) (n : Nat) : Str := ⟨(List.replicate n x.cps.toList).flatten.toArray⟩
def MulOkD (i j : Int) : Prop := CMul i j ∨ CMulW i j
def oMul : O2 := fun x y Q => match x, y with
  | .int i, .int j => MulOkD i j ∧ Q (.int (i * j))
  | .str a, .int n => (0 ≤ n ∧ n ≤ 100000 ∧ a.length ≤ 100) ∧ Q (.str (repS a n.toNat))
  | .lst xs, .int n => (-(2 ^ 63) ≤ n ∧ n < 2 ^ 63 ∧ xs.length * n.toNat ≤ sizeLine) ∧ Q (.lst (List.replicate n.toNat xs).flatten)
  | _, _ => False
theorem rep_fold (a : Array Nat) : ∀ (n : Nat) (acc : Array Nat), (List.replicate n a).foldl (· ++ ·) acc = acc ++ (List.replicate n a.toList).flatten.toArray
  | 0, acc => by simp
  | n + 1, acc => by
    rw [List.replicate_succ, List.replicate_succ, List.foldl_cons, rep_fold a n, List.flatten_cons, Array.append_assoc]
    congr 1
    apply Array.ext'
    simp
theorem op_mul_d : OpR X (binaryOp .Mult) (rLift X.K B oMul) := by
  intro pins s σ H x y v u P I rx ry q
  obtain ⟨G, dx, dy, Q, j, hx, hy, hq, k⟩ := q
  cases hx with
  | int a =>
    cases hy with
    | int b =>
      have kk := k _ _ G H hq.2 (Gr.refl j) (.int _)
      rcases hq.1 with c | c
      · exact op_mul pins s σ H _ _ v u P I rx ry ⟨a, b, rfl, rfl, c, kk⟩
      · exact op_mulW pins s σ H _ _ v u P I rx ry ⟨a, b, rfl, rfl, c, kk⟩
    | _ => exact hq.elim
  | str a =>
    cases hy with
    | int n =>
      obtain ⟨⟨n0, n1, al⟩, hq⟩ := hq
      obtain ⟨t, rfl⟩ := rx
      obtain ⟨t', rfl⟩ := ry
      have kk := k _ _ G H hq (Gr.refl j) (.str _)
      refine PySem.P.mul_str ?_ (fun h1 h2 => ?_) (fun h1 h2 => ?_) ?_
      · have h2 : ¬ n ≥ 2 ^ 63 := by omega
        have h3 : ¬ n < -(2 ^ 63 : Int) := by omega
        rw [decide_eq_false h2, decide_eq_false h3]; rfl
      · have h4 : (100 : Int) ≤ (2 ^ 63 - 1) / n := (Int.le_ediv_iff_mul_le (by omega)).mpr (by omega)
        omega
      · have h4 : a.length * n.toNat ≤ 100 * 100000 := Nat.mul_le_mul al (by omega)
        unfold Builtin.Str.tooLong
        rw [sizeLine_eq]
        exact decide_eq_false (by omega)
      · by_cases h1 : n < 1
        · rw [if_pos h1]
          have e : n.toNat = 0 := by omega
          rw [e] at kk
          exact ⟨by decide, .str _, H, I.tok _, ⟨_, rfl⟩, kk⟩
        · rw [if_neg h1]
          by_cases h2 : (n == 1 || a.length == 0) = true
          · rw [if_pos h2]
            refine ⟨.str _, H, I, ⟨_, rfl⟩, ?_⟩
            have e : repS a n.toNat = a := by
              rcases Bool.or_eq_true_iff.mp h2 with h3 | h3
              · have e : n.toNat = 1 := by have := eq_of_beq h3; omega
                rw [e]
                simp [repS]
              · have e : a.cps.toList = [] := by
                  have := eq_of_beq h3
                  exact List.eq_nil_of_length_eq_zero (by simpa [Str.length] using this)
                have e2 : a = ⟨#[]⟩ := by
                  cases a with
                  | mk c =>
                    have : c = #[] := by simpa using e
                    rw [this]
                rw [e2]
                simp [repS]
            rw [e] at kk
            exact kk
          · rw [if_neg h2]
            have e : (⟨(List.replicate n.toNat a.cps).foldl (· ++ ·) #[]⟩ : Str) = repS a n.toNat := by
              rw [rep_fold]
              simp [repS]
            rw [e]
            refine ⟨?_, .str _, H, I.tok _, ⟨_, rfl⟩, kk⟩
            have hl : (repS a n.toNat).length = n.toNat * a.length := by
              show (List.replicate n.toNat a.cps.toList).flatten.toArray.size = _
              rw [List.size_toArray, List.length_flatten, List.map_replicate, List.sum_replicate_nat]
              rfl
            have h4 : n.toNat * a.length ≤ 100000 * 100 := Nat.mul_le_mul (by omega) al
            rw [hl, sizeLine_eq]
            omega
    | _ => exact hq.elim
  | lst h1 t1 =>
    cases hy with
    | int n =>
      obtain ⟨⟨n0, n1, n2⟩, hq⟩ := hq
      refine op_rep pins s σ H _ _ v u P I rx ry ⟨_, _, _, rfl, rfl, j.ex _ _ h1, n0, n1, by rw [t1.len]; exact n2, fun p hp => ?_⟩
      exact k _ _ (upd G p _) _ hq (Gr.new j hp) (.lst upd_same ((t1.rep _).mono (Ex.new (fresh_back j.ex hp))))
    | _ => exact hq.elim
  | _ => exact hq.elim
def oIx : O2 := fun x y Q => match x, y with
  | .lst xs, .int i => match atI xs i with
    | some d => Q d
    | none => False
  | .tup xs, .int i => match atI xs i with
    | some d => Q d
    | none => False
  | .str a, .int i => a.length ≤ sizeLine ∧ match atI a.cps.toList i with
    | some c => Q (.str ⟨#[c]⟩)
    | none => False
  | _, _ => False
theorem Dats.at {K : PySem.W.Frag} {G : Hp} {vs : List V} {ds : List D} {i : Int} {d : D} (h : Dats K B G vs ds) (e : atI ds i = some d) : ∃ v, atI vs i = some v ∧ Dat K B G v d := by
  unfold atI at e ⊢
  rw [h.len]
  cases hi : ixN ds.length i with
  | none => rw [hi] at e; cases e
  | some m =>
    rw [hi] at e
    exact h.get e
theorem ix_d : IxR X (rLift X.K B oIx) := by
  intro va sl pins s σ H x y v u P I rx ry q hsub
  obtain ⟨G, dx, dy, Q, j, hx, hy, hq, k⟩ := q
  cases hx with
  | @lst a xs ds h1 t1 =>
    cases hy with
    | int i =>
      have hq : (match atI ds i with | some d => Q d | none => False) := hq
      cases e : atI ds i with
      | none => rw [e] at hq; exact hq.elim
      | some d =>
        rw [e] at hq
        obtain ⟨w, e2, hw⟩ := t1.at e
        exact ix_list va sl pins s σ H _ _ v u P I rx ry ⟨_, _, i, w, rfl, rfl, sq_of (j.ex _ _ h1), e2, k _ _ G H hq (Gr.refl j) hw⟩ hsub
    | _ => exact hq.elim
  | @tup a xs ds h1 t1 =>
    cases hy with
    | int i =>
      have hq : (match atI ds i with | some d => Q d | none => False) := hq
      cases e : atI ds i with
      | none => rw [e] at hq; exact hq.elim
      | some d =>
        rw [e] at hq
        obtain ⟨w, e2, hw⟩ := t1.at e
        exact ix_tup va sl pins s σ H _ _ v u P I rx ry ⟨_, _, i, w, rfl, rfl, tx j.ex h1, e2, k _ _ G H hq (Gr.refl j) hw⟩ hsub
    | _ => exact hq.elim
  | str a =>
    cases hy with
    | int i =>
      have hq : a.length ≤ sizeLine ∧ (match atI a.cps.toList i with | some c => Q (.str ⟨#[c]⟩) | none => False) := hq
      obtain ⟨hz, hq⟩ := hq
      cases e : atI a.cps.toList i with
      | none => rw [e] at hq; exact hq.elim
      | some c =>
        rw [e] at hq
        exact ix_str va sl pins s σ H _ _ v u P I rx ry ⟨a, i, c, rfl, rfl, hz, e, k _ _ G H hq (Gr.refl j) (.str _)⟩ hsub
    | _ => exact hq.elim
  | _ => exact hq.elim
abbrev DO := DS → (Option Int → Prop) → Prop
def liftO (K : PySem.W.Frag) (B : Bx) (r : DO) : TO := fun σ H P => ∃ (H0 G : Hp) (δ : DS) (Q : Option Int → Prop), Jn K B G H ∧ StOk K B H0 G H σ δ ∧ r δ Q ∧ ∀ o G2 H2, Q o → Gr K B G H G2 H2 → P o H2
abbrev POD (X : Cx) (B : Bx) (e : Option Expr) (r : DO) : Prop := PO X e (liftO X.K B r)
def noP : DO := fun _ Q => Q none
def aP (r : DE) : DO := fun δ Q => r δ fun x => match x with
  | .int i => Q (some i)
  | _ => False
theorem po_mono {e : Option Expr} {t t' : TO} (h : PO X e t) (m : ∀ σ H Q, t' σ H Q → t σ H Q) : PO X e t' := ⟨fun pins s σ H Q I hw => h.run pins s σ H Q I (m σ H Q hw)⟩
theorem pod_none : POD X B none noP := po_mono po_none fun σ H P q => by
  obtain ⟨H0, G, δ, Q, j, st, hr, k⟩ := q
  exact k none G H hr (Gr.refl j)
theorem pod_some {e : Expr} {r : DE} (h : PD X B e r) : POD X B (some e) (aP r) := po_mono (po_some h) fun σ H P q => by
  obtain ⟨H0, G, δ, Q, j, st, hr, k⟩ := q
  refine ⟨H0, G, δ, _, j, st, hr, fun d v G2 H2 q2 g2 h2 => ?_⟩
  cases h2 with
  | int i => exact ⟨i, rfl, k _ G2 H2 q2 g2⟩
  | _ => exact q2.elim
def cut {α : Type} (xs : List α) (lo hi : Option Int) : List α := (xs.drop (HT.sIx xs.length 0 lo)).take (HT.sIx xs.length xs.length hi - HT.sIx xs.length 0 lo)
def oSl (x : D) (lo hi : Option Int) (Q : D → Prop) : Prop := match x with
  | .lst xs => Q (.lst (cut xs lo hi))
  | .tup xs => Q (.tup (cut xs lo hi))
  | .str a => a.length ≤ sizeLine ∧ Q (.str ⟨(cut a.cps.toList lo hi).toArray⟩)
  | _ => False
def dSl (r : DE) (lo hi : DO) : DE := fun δ Q => r δ fun x => lo δ fun l => hi δ fun h => oSl x l h Q
theorem Dats.cut {K : PySem.W.Frag} {G : Hp} {vs : List V} {ds : List D} (h : Dats K B G vs ds) (lo hi : Option Int) : Dats K B G (cutV vs lo hi) (DL.cut ds lo hi) := by
  unfold cutV DL.cut
  rw [h.len]
  exact (h.drop _).take _
theorem sl_d : SlR X (fun x lo hi H P => ∃ (G : Hp) (dx : D) (Q : D → Prop), Jn X.K B G H ∧ Dat X.K B G x dx ∧ oSl dx lo hi Q ∧ ∀ d v G2 H2, Q d → Gr X.K B G H G2 H2 → Dat X.K B G2 v d → P v H2) := by
  intro pins s σ H x v vl vu lo hi sl P I rx r1 r2 r3 q
  obtain ⟨G, dx, Q, j, hx, hq, k⟩ := q
  cases hx with
  | lst h1 t1 =>
    refine sl_list pins s σ H _ v vl vu lo hi sl P I rx r1 r2 r3 ⟨_, _, rfl, sq_of (j.ex _ _ h1), fun p hp => ?_⟩
    exact k _ _ (upd G p _) _ hq (Gr.new j hp) (.lst upd_same ((t1.cut _ _).mono (Ex.new (fresh_back j.ex hp))))
  | tup h1 t1 =>
    refine sl_tupA pins s σ H _ v vl vu lo hi sl P I rx r1 r2 r3 ⟨_, _, rfl, tx j.ex h1, fun w => ?_, fun _ p hp => ?_⟩
    · rename_i a xs ds
      have e : cut ds lo hi = ds := by
        unfold DL.cut
        rw [← t1.len, w.1, w.2, List.drop_zero, Nat.sub_zero, t1.len, List.take_length]
      have hq : Q (.tup (cut ds lo hi)) := hq
      rw [e] at hq
      exact k _ _ G H hq (Gr.refl j) (.tup h1 t1)
    · exact k _ _ (upd G p _) _ hq (Gr.new j hp) (.tup upd_same ((t1.cut _ _).mono (Ex.new (fresh_back j.ex hp))))
  | str a =>
    exact sl_str pins s σ H _ v vl vu lo hi sl P I rx r1 r2 r3 ⟨a, rfl, hq.1, k _ _ G H hq.2 (Gr.refl j) (.str _)⟩
  | _ => exact hq.elim
theorem pd_slice {e : Expr} {lo hi : Option Expr} {r : DE} {rl rh : DO} {p2 pos : Pos} (he : PD X B e r) (hl : POD X B lo rl) (hh : POD X B hi rh) : PD X B (.Subscript e (.Slice lo hi none p2) pos) (dSl r rl rh) := pe_mono (pe_slice sl_d he hl hh) fun σ H P q => by
  obtain ⟨H0, G, δ, Q, j, st, hr, k⟩ := q
  refine ⟨H0, G, δ, _, j, st, hr, fun d v G2 H2 q2 g2 h2 => ?_⟩
  refine ⟨H0, G2, δ, _, g2.j, st.gr g2, q2, fun l G3 H3 q3 g3 => ?_⟩
  refine ⟨H0, G3, δ, _, g3.j, (st.gr g2).gr g3, q3, fun h G4 H4 q4 g4 => ?_⟩
  exact ⟨G4, d, Q, g4.j, h2.mono (g3.ex.trans g4.ex), q4, fun d' v' G5 H5 q5 g5 h5 => k d' v' G5 H5 q5 (((g2.trans g3).trans g4).trans g5) h5⟩
def isFlat : D → Bool
  | .non => true
  | .bl _ => true
  | .int _ => true
  | .str _ => true
  | _ => false
def eqF : D → D → Bool
  | .non, .non => true
  | .bl a, .bl b => a == b
  | .bl a, .int b => (if a then 1 else 0) == b
  | .int a, .bl b => a == (if b then 1 else 0)
  | .int a, .int b => a == b
  | .str a, .str b => a == b
  | _, _ => false
def inD (x : D) (xs : List D) : Bool := xs.any fun y => eqF y x
theorem flat_v {K : PySem.W.Frag} {G : Hp} {v : V} {d : D} (h : Dat K B G v d) (f : isFlat d = true) : flatV v = true := by
  cases h <;> first | rfl | cases f
theorem eq_v {K : PySem.W.Frag} {G : Hp} {v w : V} {d e : D} (h : Dat K B G v d) (h2 : Dat K B G w e) (f : isFlat d = true) (f2 : isFlat e = true) : eqV v w = eqF d e := by
  cases h with
  | non => cases h2 <;> first | rfl | cases f2
  | bl _ => cases h2 <;> first | rfl | cases f2
  | int _ => cases h2 <;> first | rfl | cases f2
  | str _ => cases h2 <;> first | rfl | cases f2
  | _ => cases f
theorem flats_v {K : PySem.W.Frag} {G : Hp} : ∀ {vs : List V} {ds : List D}, Dats K B G vs ds → ds.all isFlat = true → vs.all flatV = true
  | _, _, .nil, _ => rfl
  | _, _, .cons h t, f => by
    have f' := Bool.and_eq_true_iff.mp (show (isFlat _ && List.all _ isFlat) = true from f)
    rw [List.all_cons, flat_v h f'.1, flats_v t f'.2]
    rfl
theorem in_v {K : PySem.W.Frag} {G : Hp} {v : V} {d : D} (hv : Dat K B G v d) (fv : isFlat d = true) : ∀ {vs : List V} {ds : List D}, Dats K B G vs ds → ds.all isFlat = true → inV v vs = inD d ds
  | _, _, .nil, _ => rfl
  | _, _, .cons h t, f => by
    have f' := Bool.and_eq_true_iff.mp (show (isFlat _ && List.all _ isFlat) = true from f)
    have ih := in_v hv fv t f'.2
    unfold inV inD at ih ⊢
    rw [List.any_cons, List.any_cons, ih, eq_v h hv f'.1 fv]
def oIn (neg : Bool) : O2 := fun x y Q => match y with
  | .str z => match x with
    | .str w => match w.cps.toList with
      | [c] => Q (.bl (if neg then !decide (c ∈ z.cps.toList) else decide (c ∈ z.cps.toList)))
      | _ => False
    | _ => False
  | .lst ys => (isFlat x = true ∧ ys.all isFlat = true) ∧ Q (.bl (if neg then !inD x ys else inD x ys))
  | .tup ys => (isFlat x = true ∧ ys.all isFlat = true) ∧ Q (.bl (if neg then !inD x ys else inD x ys))
  | .ktup ys => (isFlat x = true ∧ ys.all isFlat = true) ∧ Q (.bl (if neg then !inD x ys else inD x ys))
  | _ => False
theorem sign_of {w : Str} {c : Nat} (h : w.cps.toList = [c]) : w = ⟨#[c]⟩ := by
  cases w with
  | mk cp =>
    have : cp = #[c] := by
      have : cp.toList = [c] := h
      rw [← Array.toList_inj]
      exact this
    rw [this]
theorem op_in_d : OpR X (compareOp .In) (rLift X.K B (oIn false)) := by
  intro pins s σ H x y v u P I rx ry q
  obtain ⟨G, dx, dy, Q, j, hx, hy, hq, k⟩ := q
  cases hy with
  | str z =>
    cases hx with
    | str w =>
      have hq : (match w.cps.toList with | [c] => Q (.bl (decide (c ∈ z.cps.toList))) | _ => False) := hq
      cases e : w.cps.toList with
      | nil => rw [e] at hq; exact hq.elim
      | cons c r =>
        cases r with
        | cons _ _ => rw [e] at hq; exact hq.elim
        | nil =>
          rw [e] at hq
          exact op_in_sign pins s σ H _ _ v u P I rx ry ⟨c, z, by rw [sign_of e], rfl, k _ _ G H hq (Gr.refl j) (.bl _)⟩
    | _ => exact hq.elim
  | lst h1 t1 =>
    obtain ⟨⟨f1, f2⟩, hq⟩ := hq
    refine op_in_seq pins s σ H _ _ v u P I rx ry ⟨_, _, rfl, .inl (sq_of (j.ex _ _ h1)), flat_v hx f1, flats_v t1 f2, ?_⟩
    have e := in_v hx f1 t1 f2
    rw [e]
    exact k _ _ G H hq (Gr.refl j) (.bl _)
  | tup h1 t1 =>
    obtain ⟨⟨f1, f2⟩, hq⟩ := hq
    refine op_in_seq pins s σ H _ _ v u P I rx ry ⟨_, _, rfl, .inr (tx j.ex h1), flat_v hx f1, flats_v t1 f2, ?_⟩
    have e := in_v hx f1 t1 f2
    rw [e]
    exact k _ _ G H hq (Gr.refl j) (.bl _)
  | ktup h1 t1 =>
    obtain ⟨⟨f1, f2⟩, hq⟩ := hq
    refine op_in_seq pins s σ H _ _ v u P I rx ry ⟨_, _, rfl, .inr (ex_t j.ex h1), flat_v hx f1, flats_v t1 f2, ?_⟩
    have e := in_v hx f1 t1 f2
    rw [e]
    exact k _ _ G H hq (Gr.refl j) (.bl _)
  | _ => exact hq.elim
def cLen : FD := fun ds Q => match ds with
  | [.lst xs] => Q (.int xs.length)
  | [.tup xs] => Q (.int xs.length)
  | [.str a] => a.length ≤ sizeLine ∧ Q (.int a.length)
  | _ => False
theorem call_len_d : CallR X (.builtin "len") (cLift X.K B cLen) := by
  intro pins s σ H vs us P I rv q
  obtain ⟨G, ds, Q, j, hd, hq, k⟩ := q
  cases hd with
  | nil => exact hq.elim
  | cons h1 h2 =>
    cases h2 with
    | cons _ _ => cases h1 <;> exact hq.elim
    | nil =>
      cases h1 with
      | lst a t => exact call_len_seq pins s σ H _ us P I rv ⟨_, _, rfl, .inl (sq_of (j.ex _ _ a)), by rw [t.len]; exact k _ _ G H hq (Gr.refl j) (.int _)⟩
      | tup a t => exact call_len_seq pins s σ H _ us P I rv ⟨_, _, rfl, .inr (tx j.ex a), by rw [t.len]; exact k _ _ G H hq (Gr.refl j) (.int _)⟩
      | str a => exact call_len_str pins s σ H _ us P I rv ⟨a, rfl, hq.1, k _ _ G H hq.2 (Gr.refl j) (.int _)⟩
      | _ => exact hq.elim
def cInt : FD := fun ds Q => match ds with
  | [.int i] => Q (.int i)
  | [.bl b] => Q (.int (if b then 1 else 0))
  | [.str a] => match intText? a with
    | some n => a.length ≤ 640 ∧ Q (.int n)
    | none => False
  | _ => False
theorem call_int_d : CallR X (.type "int") (cLift X.K B cInt) := by
  intro pins s σ H vs us P I rv q
  obtain ⟨G, ds, Q, j, hd, hq, k⟩ := q
  cases hd with
  | nil => exact hq.elim
  | cons h1 h2 =>
    cases h2 with
    | cons _ _ => cases h1 <;> exact hq.elim
    | nil =>
      cases h1 with
      | int i => exact call_int1 pins s σ H _ us P I rv (.inl ⟨i, rfl, k _ _ G H hq (Gr.refl j) (.int _)⟩)
      | bl b => exact call_int1 pins s σ H _ us P I rv (.inr ⟨b, rfl, k _ _ G H hq (Gr.refl j) (.int _)⟩)
      | str a =>
        have hq : (match intText? a with | some n => a.length ≤ 640 ∧ Q (.int n) | none => False) := hq
        cases e : intText? a with
        | none => rw [e] at hq; exact hq.elim
        | some n =>
          rw [e] at hq
          exact call_int_str pins s σ H _ us P I rv ⟨a, n, rfl, e, hq.1, k _ _ G H hq.2 (Gr.refl j) (.int _)⟩
      | _ => exact hq.elim
def cAbs : FD := fun ds Q => match ds with
  | [.int i] => Q (.int (if i < 0 then -i else i))
  | _ => False
def cMax : FD := fun ds Q => match ds with
  | [.int i, .int j] => Q (.int (if j > i then j else i))
  | _ => False
def blsOf : List D → Option (List Bool)
  | [] => some []
  | .bl b :: r => (blsOf r).map (b :: ·)
  | _ :: _ => none
theorem bls_v {K : PySem.W.Frag} {G : Hp} : ∀ {vs : List V} {ds : List D} {bs : List Bool}, Dats K B G vs ds → blsOf ds = some bs → vs = bs.map V.bl
  | _, _, bs, .nil, e => by cases e; rfl
  | _, _, bs, .cons h t, e => by
    cases h with
    | bl b =>
      have e : (blsOf _).map (b :: ·) = some bs := e
      cases h2 : blsOf _ with
      | none => rw [h2] at e; cases e
      | some cs =>
        rw [h2] at e
        cases e
        rw [bls_v t h2]
        rfl
    | _ => cases e
def cAll : FD := fun ds Q => match ds with
  | [.lst xs] => match blsOf xs with
    | some bs => Q (.bl (bs.all id))
    | none => False
  | _ => False
def cAny : FD := fun ds Q => match ds with
  | [.lst xs] => match blsOf xs with
    | some bs => Q (.bl (bs.any id))
    | none => False
  | _ => False
theorem call_all_d (hc : X.calm = true) : CallR X (.builtin "all") (cLift X.K B cAll) := by
  intro pins s σ H vs us P I rv q
  obtain ⟨G, ds, Q, j, hd, hq, k⟩ := q
  cases hd with
  | nil => exact hq.elim
  | cons h1 h2 =>
    cases h2 with
    | cons _ _ => cases h1 <;> exact hq.elim
    | nil =>
      cases h1 with
      | @lst a vs xs ha t =>
        have hq : (match blsOf xs with | some bs => Q (.bl (bs.all id)) | none => False) := hq
        cases e : blsOf xs with
        | none => rw [e] at hq; exact hq.elim
        | some bs =>
          rw [e] at hq
          have e2 := bls_v t e
          subst e2
          exact cr_all hc pins s σ H _ us P I rv ⟨a, bs, rfl, sq_of (j.ex _ _ ha), k _ _ G H hq (Gr.refl j) (.bl _)⟩
      | _ => exact hq.elim
end
end DL
namespace DL
open PySem PySem.Spec PyProof.Rows L2 Evl
section
variable {X : Cx} {B : Bx} {e : Expr} {es : List Expr} {r : DE} {pos : Pos}
def tyN : D → String
  | .non => "NoneType"
  | .bl _ => "bool"
  | .int _ => "int"
  | .str _ => "str"
  | .lst _ => "list"
  | .tup _ => "tuple"
  | .dic _ => "dict"
  | .obj _ _ => ""
  | .bag => "list"
  | .ktup _ => "tuple"
def isi (T : String) (d : D) : Bool := match d with
  | .bl _ => T == "bool" || T == "int"
  | d => tyN d == T
def pureD : D → Bool
  | .obj _ _ => false
  | .bag => false
  | .ktup _ => false
  | _ => true
def dIsi (T : String) (r : DE) : DE := fun δ Q => r δ fun d => match pureD d with
  | true => Q (.bl (isi T d))
  | false => False
def TyY (K : PySem.W.Frag) (H : Hp) (v : V) (T : String) : Prop := TyX K H v (.type T) ∨ ∃ a od kvs, v = .ref a ∧ H a = some (.frz od (.dT kvs)) ∧ T = "dict"
def rIsiD (K : PySem.W.Frag) : List V → Hp → VK → Prop := fun xs H Q => ∃ (x c : V) (T : String) (u : Value) (b : Bool), xs = [x, c] ∧ ClsV c u ∧ TyY K H x T ∧ PySem.W.kitOne K (.type T) u = some b ∧ Q (.bl b) H
theorem call_isiD : CallR X (.builtin "isinstance") (rIsiD X.K) := by
  intro pins s σ H xs us Q I r h
  obtain ⟨x, c, T, u, b, rfl, k, ty, e, q⟩ := h
  rcases ty with ty | ⟨a, od, kvs, rfl, ha, rfl⟩
  · exact call_isi pins s σ H _ us Q I r ⟨x, c, _, u, b, rfl, k, ty, e, q⟩
  · obtain ⟨u1, u2, rfl, r1, r2⟩ := vals2 r
    have e2 := k.eq r2
    subst e2
    cases (show u1 = Value.ref a from r1)
    obtain ⟨_, _, _, _, _, o, es, ep, h1, h2, _⟩ := (show ObjOk X.prog X.w H s.heap a (.frz od (.dT kvs)) from I.hok a _ ha)
    exact PySem.W.kia_one PySem.W.kitx_dict I.kIn ⟨o, h1, h2.1⟩ e (fun z => nomatch z) fun tk => ⟨.bl b, H, I.tok tk, rfl, q⟩
theorem ty_d {K : PySem.W.Frag} {G H : Hp} {v : V} {d : D} (e : Ex G H) (h : Dat K B G v d) (p : pureD d = true) : TyY K H v (tyN d) := by
  cases h with
  | non => exact .inl (.base .non)
  | bl b => exact .inl (.base (.bl b))
  | int i => exact .inl (.base (.int i))
  | str x => exact .inl (.base (.str x))
  | lst h t => exact .inl (.base (.lst (e _ _ h)))
  | tup h t => exact .inl (.base (.tup (e _ _ h)))
  | dK h t => exact .inl (.fDict (e _ _ h))
  | dT h t => exact .inr ⟨_, _, _, rfl, e _ _ h, rfl⟩
  | bag => cases p
  | ktup _ _ => cases p
  | obj _ _ _ => cases p
def knownTy (T : String) : Prop := ∀ d : D, pureD d = true → kitB (tyN d) T = some (isi T d)
theorem known_str : knownTy "str"
  | .non, _ => (by decide +kernel : kitB "NoneType" "str" = some false)
  | .bl _, _ => (by decide +kernel : kitB "bool" "str" = some false)
  | .int _, _ => (by decide +kernel : kitB "int" "str" = some false)
  | .str _, _ => (by decide +kernel : kitB "str" "str" = some true)
  | .lst _, _ => (by decide +kernel : kitB "list" "str" = some false)
  | .tup _, _ => (by decide +kernel : kitB "tuple" "str" = some false)
  | .dic _, _ => (by decide +kernel : kitB "dict" "str" = some false)
  | .obj _ _, p => nomatch p
  | .bag, p => nomatch p
  | .ktup _, p => nomatch p
theorem pd_isi {T : String} {tn : Str} {p q : Pos} (kn : knownTy T) (hg : Gl X "isinstance") (hm : X.mg "isinstance" = none) (hgT : Gl X tn) (hmT : X.mg tn = none) (hvT : bootBuiltins tn = some (.type T)) (he : PD X B e r) (hn : tn ≠ "__name__" := by decide) (hdb : (tn == ("__debug__" : Str)) = false := by decide)
    (hs1 : starEach [e, .Name tn q] X.env = (false, eval e X.env) :: starEach [.Name tn q] X.env := by rfl) (hs2 : starEach [.Name tn q] X.env = (false, eval (.Name tn q) X.env) :: starEach [] X.env := by rfl) (hpl : (backTo pos (starEach [.Name tn q] X.env)).any (·.1) = false := by rfl) :
    PD X B (.Call (.Name "isinstance" p) [e, .Name tn q] [] pos) (dIsi T r) := pe_mono (pe_callB call_isiD hg hm (by decide +kernel) (pa_cons he (pa_cons (pe_bltn (v := .ty T) hgT hmT hvT rfl hn hdb) pa_nil hs2) hs1) (by decide) (by decide) hs1 hpl) fun σ H P q => by
  obtain ⟨H0, G, δ, Q, j, st, hr, k⟩ := q
  refine ⟨H0, G, δ, _, j, st, hr, fun d v G2 H2 q2 g2 h2 => ?_⟩
  have q2 : (match pureD d with | true => Q (.bl (isi T d)) | false => False) := q2
  cases hp : pureD d with
  | false => rw [hp] at q2; exact q2.elim
  | true =>
    rw [hp] at q2
    exact ⟨v, .ty T, _, .type T, _, rfl, .ty T, ty_d g2.j.ex h2 hp, kit_ty (kn d hp), k _ _ G2 H2 q2 g2 (.bl _)⟩
abbrev OM := D → List D → (D → Prop) → Prop
def mLift (K : PySem.W.Frag) (B : Bx) (r : OM) : V → List V → Hp → VK → Prop := fun x xs H P => ∃ (G : Hp) (d : D) (ds : List D) (Q : D → Prop), Jn K B G H ∧ Dat K B G x d ∧ Dats K B G xs ds ∧ r d ds Q ∧ ∀ d v G2 H2, Q d → Gr K B G H G2 H2 → Dat K B G2 v d → P v H2
def isT (T : String) : D → Bool
  | .str _ => T == "str"
  | .int _ => T == "int"
  | .lst _ => T == "list"
  | _ => false
def dMt (T : String) (m : OM) (r : DE) (ra : DA) : DE := fun δ Q => r δ fun x => match isT T x with
  | true => ra δ fun ds => m x ds Q
  | false => False
theorem tyv_d {K : PySem.W.Frag} {G H : Hp} {T : String} {v : V} {d : D} (e : Ex G H) (h : Dat K B G v d) (t : isT T d = true) : tyV K T v H := by
  cases h with
  | str x => exact eq_of_beq t
  | int i => exact eq_of_beq t
  | lst h _ => exact .inl ⟨eq_of_beq t, _, sq_of (e _ _ h)⟩
  | _ => cases t
theorem pd_bm {T id : String} {m : OM} {ra : DA} {o : Expr} {name : Str} {apos : Pos} (pa : PlainAttrs T) (slot : Slot T name id) (hty : typeOf (.builtin id) = pure (.type "method_descriptor")) (hm : MtR X id (mLift X.K B m)) (ho : PD X B o r) (ha : PAD X B (e :: es) ra)
    (hbase : attributeBase o name X.env (eval o X.env) = eval o X.env := by rfl)
    (hfew : ((backTo pos (starEach (e :: es) X.env)).all (fun x => !x.1) && (backToKw pos (keywordEach [] X.env)).all (fun x => x.1.isSome) && decide ((e :: es).length + ([] : List Keyword).length + (if ([] : List Keyword).isEmpty then 0 else 1) < 30)) = true := by rfl)
    (hline : (apos.endLine == pos.line) = true := by rfl) (hs : starEach (e :: es) X.env = (false, eval e X.env) :: starEach es X.env := by rfl) (hplain : (backTo pos (starEach es X.env)).any (·.1) = false := by rfl) :
    PD X B (.Call (.Attribute o name apos) (e :: es) [] pos) (dMt T m r ra) := pe_mono (pe_bm pa slot hty hm ho ha hbase hfew hline hs hplain) fun σ H P q => by
  obtain ⟨H0, G, δ, Q, j, st, hr, k⟩ := q
  refine ⟨H0, G, δ, _, j, st, hr, fun d v G2 H2 q2 g2 h2 => ?_⟩
  have q2 : (match isT T d with | true => ra δ fun ds => m d ds Q | false => False) := q2
  cases ht : isT T d with
  | false => rw [ht] at q2; exact q2.elim
  | true =>
    rw [ht] at q2
    refine ⟨tyv_d g2.j.ex h2 ht, H0, G2, δ, _, g2.j, st.gr g2, q2, fun ds vs G3 H3 q3 g3 h3 => ?_⟩
    exact ⟨G3, d, ds, Q, g3.j, h2.mono g3.ex, h3, q3, fun d' v' G4 H4 q4 g4 h4 => k d' v' G4 H4 q4 ((g2.trans g3).trans g4) h4⟩
def strsOf : List D → Option (List Str)
  | [] => some []
  | .str x :: r => (strsOf r).map (x :: ·)
  | _ :: _ => none
theorem strs_v {K : PySem.W.Frag} {G : Hp} : ∀ {vs : List V} {ds : List D} {xs : List Str}, Dats K B G vs ds → strsOf ds = some xs → vs = xs.map V.str
  | _, _, xs, .nil, e => by cases e; rfl
  | _, _, xs, .cons h t, e => by
    cases h with
    | str b =>
      have e : (strsOf _).map (b :: ·) = some xs := e
      cases h2 : strsOf _ with
      | none => rw [h2] at e; cases e
      | some cs =>
        rw [h2] at e
        cases e
        rw [strs_v t h2]
        rfl
    | _ => cases e
def mJoin : OM := fun x ds Q => match x, ds with
  | .str a, [.lst xs] => match strsOf xs with
    | some ys => (ys.map (·.length)).sum + ys.length * a.length ≤ 16777216 ∧ Q (.str (Txt.join a ys))
    | none => False
  | _, _ => False
theorem mt_join_d : MtR X "str.join" (mLift X.K B mJoin) := by
  intro pins s σ H x xs v us P I rx rs q
  obtain ⟨G, d, ds, Q, j, hx, hd, hq, k⟩ := q
  cases hx with
  | str a =>
    cases hd with
    | nil => exact hq.elim
    | cons h1 h2 =>
      cases h2 with
      | cons _ _ => cases h1 <;> exact hq.elim
      | nil =>
        cases h1 with
        | @lst p vs ys hp t =>
          have hq : (match strsOf ys with | some zs => (zs.map (·.length)).sum + zs.length * a.length ≤ 16777216 ∧ Q (.str (Txt.join a zs)) | none => False) := hq
          cases e : strsOf ys with
          | none => rw [e] at hq; exact hq.elim
          | some zs =>
            rw [e] at hq
            have e2 := strs_v t e
            subst e2
            exact mt_join pins s σ H _ _ v us P I rx rs ⟨a, p, zs, rfl, rfl, .inl (sq_of (j.ex _ _ hp)), hq.1, k _ _ G H hq.2 (Gr.refl j) (.str _)⟩
        | _ => exact hq.elim
  | _ => exact hq.elim
def mCount : OM := fun x ds Q => match x, ds with
  | .lst xs, [y] => (isFlat y = true ∧ xs.all isFlat = true) ∧ Q (.int ((xs.countP fun z => eqF z y : Nat) : Int))
  | _, _ => False
def cTuple : FD := fun ds Q => match ds with
  | [.lst xs] => Q (.tup xs)
  | [.tup xs] => Q (.tup xs)
  | _ => False
def gL (n : Nat) (gs : DGs) : DG := fun d δ Q => match d with
  | .lst ds => match decide (ds.length = n) with
    | true => gs ds δ Q
    | false => False
  | _ => False
def dStar (r : DE) (ra : DA) : DA := fun δ Q => r δ fun x => match x with
  | .tup xs => ra δ fun ys => Q (xs ++ ys)
  | .lst xs => ra δ fun ys => Q (xs ++ ys)
  | _ => False
end
end DL
namespace DL
open PySem PySem.Spec PyProof.Rows L2 Evl
theorem obj_slt {K : PySem.W.Frag} {B : Bx} {G H : Hp} {a dx : Addr} {C : Nat} {vs : List V} (e : Ex G H) (h1 : G a = some (SlX.SlO a (B.ct C) dx (vs.map some))) (h2 : G dx = some (.xd []))   : SlX.Slt H a (B.ct C) dx (vs.map some) := .inr ⟨e _ _ h1, e _ _ h2⟩
section
variable {X : Cx} {B : Bx} {e o : Expr} {es : List Expr} {r : DE} {pos : Pos} {p g : Addr} {f m : Str} {i k C : Nat} {S : FD} {ra : DA} {E : XK}
def dFld (C : Nat) (i : Nat) (r : DE) : DE := fun δ Q => r δ fun d => match d with
  | .obj C' fs => C' = C ∧ (match fs[i]? with
    | some d => Q d
    | none => False)
  | _ => False
theorem pd_fld (c : SlX.SCls X.K (B.ct C)) (t : SlX.Slot1 X.K (B.ct C) f p i) (he : PD X B e r) (hb : attributeBase e f X.env (eval e X.env) = eval e X.env := by rfl) : PD X B (.Attribute e f pos) (dFld C i r) := pe_mono (SlX.pe_sl he hb) fun σ H P q => by
  obtain ⟨H0, G, δ, Q, j, st, hr, k⟩ := q
  refine ⟨H0, G, δ, _, j, st, hr, fun d v G2 H2 q2 g2 h2 => ?_⟩
  cases h2 with
  | @obj a dx C' vs fs h3 h4 h5 =>
    obtain ⟨rfl, q2⟩ := q2
    cases hf : fs[i]? with
    | none => rw [hf] at q2; exact q2.elim
    | some d =>
      rw [hf] at q2
      obtain ⟨u, e1, e2⟩ := h5.get hf
      exact ⟨a, B.ct C', dx, p, vs.map some, i, u, rfl, obj_slt (K := X.K) (B := B) g2.j.ex h3 h4, c, t, by rw [List.getElem?_map, e1]; rfl, k _ _ G2 H2 q2 g2 e2⟩
  | _ => exact q2.elim
def isO (C : Nat) (d : D) : Prop := match d with
  | .obj C' _ => C' = C
  | _ => False
def dProp (C : Nat) (S : FD) (r : DE) : DE := fun δ Q => r δ fun d => isO C d ∧ S [d] Q
theorem pd_prop (c : SlX.SCls X.K (B.ct C)) (at_ : PySem.W.findIn X.K (.ref (B.ct C)) f = some (some (.ref p))) (get : PySem.W.specialIn X.K (.ref p) "__get__" = some (some (.builtin "property.__get__")))
    (tk : PySem.W.takesIn X.K (.ref p) = some true) (rc : ∃ rest, PySem.W.recIn X.K p "property" = some (.ref g :: rest)) (F : FnR X.prog X.w X.K X.mg X.base CX0 k g (spD X.K B S)) (hr : Room (k + 1) X.A) (he : PD X B e r) (hb : attributeBase e f X.env (eval e X.env) = eval e X.env := by rfl) :
    PD X B (.Attribute e f pos) (dProp C S r) := pe_mono (SlX.pe_propSl (E := E0) he c at_ get tk rc F hr (fun _ _ _ _ z => z) hb) fun σ H P q => by
  obtain ⟨H0, G, δ, Q, j, st, hr, k⟩ := q
  refine ⟨H0, G, δ, _, j, st, hr, fun d v G2 H2 q2 g2 h2 => ?_⟩
  obtain ⟨ho, q2⟩ := q2
  cases h2 with
  | @obj a dx C' vs fs h3 h4 h5 =>
    have ho : C' = C := ho
    subst ho
    exact ⟨a, dx, vs.map some, rfl, obj_slt (K := X.K) (B := B) g2.j.ex h3 h4, G2, _, Q, g2.j, .cons (.obj h3 h4 h5) .nil, q2, fun d v G3 H3 q3 g3 h3 => k d v G3 H3 q3 (g2.trans g3) h3⟩
  | _ => exact ho.elim
def dMeth (C : Nat) (S : FD) (r : DE) (ra : DA) : DE := fun δ Q => r δ fun d => isO C d ∧ ra δ fun ds => S (d :: ds) Q
theorem pd_meth {pl : Sem Bool} {apos : Pos} (c : SlX.SCls X.K (B.ct C)) (hm : Meth X.K (B.ct C) m g) (F : FnR X.prog X.w X.K X.mg X.base CX0 k g (spD X.K B S)) (hr : Room k X.A) (he : PD X B o r) (ha : PAD X B (e :: es) ra)
    (hst : starEach (e :: es) X.env = (false, eval e X.env) :: starEach es X.env := by rfl) (hpl : (backTo pos (starEach es X.env)).any (·.1) = false := by rfl)
    (ht : eval (.Call (.Attribute o m apos) (e :: es) [] pos) X.env = (do let ov ← eval o X.env; standAt apos.atName; let (f, first) ← holding [ov] (getMethod ov m pl); callWith pos f first (backTo pos (starEach (e :: es) X.env)) (backToKw pos (keywordEach [] X.env))) := by rfl) :
    PD X B (.Call (.Attribute o m apos) (e :: es) [] pos) (dMeth C S r ra) := pe_mono (SlX.pe_methSl (E := E0) he c hm F hr pass0 ha hst hpl ht) fun σ H P q => by
  obtain ⟨H0, G, δ, Q, j, st, hr, k⟩ := q
  refine ⟨H0, G, δ, _, j, st, hr, fun d v G2 H2 q2 g2 h2 => ?_⟩
  obtain ⟨ho, q2⟩ := q2
  cases h2 with
  | @obj a dx C' vs fs h3 h4 h5 =>
    have ho : C' = C := ho
    subst ho
    refine ⟨a, dx, vs.map some, rfl, obj_slt (K := X.K) (B := B) g2.j.ex h3 h4, H0, G2, δ, _, g2.j, st.gr g2, q2, fun ds ws G3 H3 q3 g3 h6 => ?_⟩
    exact ⟨G3, _, Q, g3.j, .cons ((Dat.obj h3 h4 h5).mono g3.ex) h6, q3, fun d v G4 H4 q4 g4 h7 => k d v G4 H4 q4 ((g2.trans g3).trans g4) h7⟩
  | _ => exact ho.elim
theorem pd_meth0 {pl : Sem Bool} {apos : Pos} (c : SlX.SCls X.K (B.ct C)) (hm : Meth X.K (B.ct C) m g) (F : FnR X.prog X.w X.K X.mg X.base CX0 k g (spD X.K B S)) (hr : Room k X.A) (he : PD X B o r)
    (ht : eval (.Call (.Attribute o m apos) [] [] pos) X.env = (do let ov ← eval o X.env; standAt apos.atName; let (f, first) ← holding [ov] (getMethod ov m pl); callWith pos f first (backTo pos (starEach [] X.env)) (backToKw pos (keywordEach [] X.env))) := by rfl) :
    PD X B (.Call (.Attribute o m apos) [] [] pos) (dMeth C S r dNil) := pe_mono (SlX.pe_methSl0 (E := E0) he c hm F hr pass0 ht) fun σ H P q => by
  obtain ⟨H0, G, δ, Q, j, st, hr, k⟩ := q
  refine ⟨H0, G, δ, _, j, st, hr, fun d v G2 H2 q2 g2 h2 => ?_⟩
  obtain ⟨ho, q2⟩ := q2
  cases h2 with
  | @obj a dx C' vs fs h3 h4 h5 =>
    have ho : C' = C := ho
    subst ho
    exact ⟨a, dx, vs.map some, rfl, obj_slt (K := X.K) (B := B) g2.j.ex h3 h4, G2, _, Q, g2.j, .cons (.obj h3 h4 h5) .nil, q2, fun d v G3 H3 q3 g3 h3 => k d v G3 H3 q3 (g2.trans g3) h3⟩
  | _ => exact ho.elim
def oOwn (C : Nat) (S : FD) : O2 := fun x y Q => isO C x ∧ isO C y ∧ S [x, y] Q
def oOwn1 (C : Nat) (S : FD) : O1 := fun x Q => isO C x ∧ S [x] Q
end
def putD (m : Nat) (d : D) (fs : List (Option D)) : List (Option D) := (fs ++ List.replicate (m + 1 - fs.length) none).set m (some d)
theorem fld_put {K : PySem.W.Frag} {B : Bx} {G : Hp} {vs : List (Option V)} {fs : List (Option D)} {m : Nat} {v : V} {d : D} (h : FldOk K B G vs fs) (hv : Dat K B G v d) : FldOk K B G (SlX.putS m v vs) (putD m d fs) := by
  refine ⟨by unfold SlX.putS putD; simp only [List.length_set, List.length_append, List.length_replicate]; rw [h.1], fun i x e => ?_⟩
  by_cases hi : i = m
  · subst hi
    have e2 : (putD i d fs)[i]? = some (some d) := by
      unfold putD
      exact List.getElem?_set_self (by simp only [List.length_append, List.length_replicate]; omega)
    rw [e2] at e
    cases e
    exact ⟨v, SlX.putS_get i v vs, hv⟩
  · have e2 : fs[i]? = some (some x) := by
      unfold putD at e
      rw [List.getElem?_set_ne (Ne.symm hi)] at e
      by_cases hl : i < fs.length
      · rw [List.getElem?_append_left hl] at e; exact e
      · rw [List.getElem?_append_right (by omega), List.getElem?_replicate] at e
        split at e <;> cases e
    obtain ⟨u, a, b⟩ := h.2 i x e2
    exact ⟨u, (SlX.putS_ne hi).mpr a, b⟩
def notNw : Option SD → Bool
  | some (.nw _ _ _) => false
  | _ => true
def oneNw (i : Nat) (δ : DS) : Bool := (List.range δ.length).all fun j => j == i || notNw (δ.getD j none)
section
variable {K : PySem.W.Frag} {B : Bx} {G0 H0 G H : Hp} {σ : L2.St} {δ : DS} {i m C : Nat} {x dx : Addr} {vs : List (Option V)} {fs : List (Option D)} {v : V} {d : D}
theorem nw_gr (g : Gr K B G0 H0 G H) (n : NwAt K B H0 G H x C dx vs fs) (ws : List (Option V)) : Gr K B G0 H0 G (SlX.slH H x (B.ct C) dx ws) := (g.own n.hd n.gd n.bd).own n.hx n.gx n.bx
theorem nw_put (n : NwAt K B H0 G H x C dx vs fs) (hv : Dat K B G v d) : NwAt K B H0 G (SlX.slH H x (B.ct C) dx (SlX.putS m v vs)) x C dx (SlX.putS m v vs) (putD m d fs) :=
  ⟨SlX.slH_slt n.ne, .inr (by unfold SlX.slH; rw [upd_ne n.ne, upd_same]), n.ne, n.gx, n.gd, n.hx, n.hd, n.bx, n.bd, fld_put n.fl hv⟩
theorem StF.nw {F : Nat → List Addr} (y : StF K B H0 G H σ δ F) (h : δ[i]? = some (some (.nw x C fs))) : ∃ dx vs, σ[i]? = some (some (.ref x)) ∧ NwAt K B H0 G H x C dx vs fs ∧ F i = [x, dx] := by
  obtain ⟨ov, h1, s⟩ := y.get h
  generalize F i = f at s ⊢
  cases s with
  | nw n => exact ⟨_, _, h1, n, rfl⟩
theorem st_put {F : Nat → List Addr} (y : StF K B H0 G H σ δ F) (hi : δ[i]? = some (some (.nw x C fs))) (hs : σ[i]? = some (some (.ref x))) (n : NwAt K B H0 G H x C dx vs fs) (hF : F i = [x, dx]) (hv : Dat K B G v d) :
    StF K B H0 G (SlX.slH H x (B.ct C) dx (SlX.putS m v vs)) σ (δ.set i (some (.nw x C (putD m d fs)))) (fun j => if j = i then [x, dx] else F j) := by
  have z := y.put (i := i) (List.getElem?_eq_some_iff.mp hs).1 (Ex.refl G) (H2 := SlX.slH H x (B.ct C) dx (SlX.putS m v vs)) (fun p _ _ hp => ?_) (.nw (nw_put (m := m) n hv)) fun p hp => .inr (by rw [hF]; exact hp)
  · rw [set_same hs] at z
    exact z
  · rw [hF] at hp
    have h1 : p ≠ x := fun e => hp (by rw [e]; simp)
    have h2 : p ≠ dx := fun e => hp (by rw [e]; simp)
    exact ⟨SlX.slH_ne h1 h2, rfl⟩
end
section
variable {X : Cx} {B : Bx} {e : Expr} {r : DE} {pos : Pos} {p : Addr} {f : Str} {i m C : Nat}
/-- self.f as a target -/
def gA (K : PySem.W.Frag) (i m : Nat) (C : Addr) : TG := fun v σ H Q => ∃ x dx vs, σ[i]? = some (some (.ref x)) ∧ SlX.Slt H x C dx vs ∧ Q σ (SlX.slH H x C dx (SlX.putS m v vs))
theorem pg_attr {o : Expr} (c : SlX.SCls X.K (B.ct C)) (t : SlX.Slot1 X.K (B.ct C) f p m) (ho : PE X o (tVar i)) : PG X (.Attribute o f pos) (gA X.K i m (B.ct C)) := ⟨fun pins s σ H v u Q I r hw => by
  obtain ⟨x, dx, vs, hs, hsl, q⟩ := hw
  rw [assign_Attribute]
  refine wpAny_bind (wpAny_holding (thn (ho.run pins s σ H (fun y H1 => y = .ref x ∧ H1 = H) I ⟨_, hs, rfl, rfl⟩) fun ov s1 ⟨y, H1, I1, r1, q1⟩ => ?_))
  obtain ⟨rfl, rfl⟩ := q1
  cases (show ov = Value.ref x from r1)
  refine wpAny_bind (wpAny_standAt (wpAny_bind (wpAny_holding (SlX.setslot_ok I1 hsl c t r fun s2 I2 => wpAny_release ⟨σ, _, I2, q⟩))))⟩
/-- self.f = e -/
def dSelf (i m : Nat) (C : Nat) (r : DE) : DTS := fun W δ => r δ fun d => match δ[i]? with
  | some (some (.nw x C' fs)) => (C' = C ∧ oneNw i δ = true) ∧ W.nx (δ.set i (some (.nw x C (putD m d fs))))
  | _ => False
/-- self.f, self.g = e -/
def dSelf2 (i m n : Nat) (C : Nat) (r : DE) : DTS := fun W δ => r δ fun d => match d with
  | .tup [d1, d2] => match δ[i]? with
    | some (some (.nw x C' fs)) => (C' = C ∧ oneNw i δ = true) ∧ W.nx (δ.set i (some (.nw x C (putD n d2 (putD m d1 fs)))))
    | _ => False
  | _ => False
theorem psd_self2 {o1 o2 : Expr} {p2 : Addr} {f2 : Str} {n k1 : Nat} {pa pb pt : Pos} (hc : X.calm = true) (c : SlX.SCls X.K (B.ct C)) (t : SlX.Slot1 X.K (B.ct C) f p m) (t2 : SlX.Slot1 X.K (B.ct C) f2 p2 n) (ho1 : PE X o1 (tVar i)) (ho2 : PE X o2 (tVar i)) (he : PD X B e r)
    (hn : (assignEach [.Attribute o1 f pa, .Attribute o2 f2 pb] X.env).length = 2 := by rfl) (hst : (assignEach [.Attribute o1 f pa, .Attribute o2 f2 pb] X.env).findIdx? (·.1) = none := by rfl)
    (ha1 : (assignEach [.Attribute o1 f pa, .Attribute o2 f2 pb] X.env).map (·.2) = assign (.Attribute o1 f pa) X.env :: (assignEach [.Attribute o2 f2 pb] X.env).map (·.2) := by rfl) (ha2 : (assignEach [.Attribute o2 f2 pb] X.env).map (·.2) = assign (.Attribute o2 f2 pb) X.env :: (assignEach [] X.env).map (·.2) := by rfl)
    (hs : swapsWithSole [.Tuple [.Attribute o1 f pa, .Attribute o2 f2 pb] k1 pt] e pos.line X.env = pure false := by rfl) (hw : swappedStores [.Tuple [.Attribute o1 f pa, .Attribute o2 f2 pb] k1 pt] e X.env = pure none := by rfl) (h1 : (assignEach [.Tuple [.Attribute o1 f pa, .Attribute o2 f2 pb] k1 pt] X.env).map (·.2) = [assign (.Tuple [.Attribute o1 f pa, .Attribute o2 f2 pb] k1 pt) X.env] := by rfl) :
    PSD X B (.Assign [.Tuple [.Attribute o1 f pa, .Attribute o2 f2 pb] k1 pt] e pos) (dSelf2 i m n C r) :=
  ps_mono (ps_asg he (pg_tup hc (pgs_cons (pg_attr c t ho1) (pgs_cons (pg_attr c t2 ho2) pgs_nil ha2) ha1) hn hst) hs hw h1) fun E σ H q => by
  obtain ⟨G0, H0, G, δ, W, g, s, h, k⟩ := q
  refine at_stmt g s h fun d v G2 H2 q2 g2 e2 s2 h2 => ?_
  cases h2 with
  | @tup a xs ds h3 h4 =>
    cases h4 with
    | nil => exact q2.elim
    | @cons v1 r1 d1 _ h5 h6 =>
      cases h6 with
      | nil => exact q2.elim
      | @cons v2 r2 d2 _ h7 h8 =>
        cases h8 with
        | cons _ _ => exact q2.elim
        | nil =>
          have q2 : (match δ[i]? with | some (some (.nw x C' fs)) => (C' = C ∧ oneNw i δ = true) ∧ W.nx (δ.set i (some (.nw x C (putD n d2 (putD m d1 fs))))) | _ => False) := q2
          cases h1 : δ[i]? with
          | none => rw [h1] at q2; exact q2.elim
          | some z =>
            cases z with
            | none => rw [h1] at q2; exact q2.elim
            | some y =>
              cases y with
              | sh _ => rw [h1] at q2; exact q2.elim
              | ow _ _ => rw [h1] at q2; exact q2.elim
              | nw x C' fs =>
                rw [h1] at q2
                obtain ⟨⟨rfl, one⟩, q2⟩ := q2
                obtain ⟨F, y⟩ := s2.ex
                obtain ⟨dx, vs, a1, nn, hF⟩ := StF.nw y h1
                refine ⟨a, _, rfl, tx g2.j.ex h3, rfl, v1, [v2], rfl, x, dx, vs, a1, nn.sl, v2, [], rfl, x, dx, _, a1, SlX.slH_slt nn.ne, rfl, ?_⟩
                have n1 := nw_put (m := m) nn h5
                have s3 := st_put (m := m) y h1 a1 nn hF h5
                have g3 := nw_gr g2 nn (SlX.putS m v1 vs)
                have h1' : (δ.set i (some (.nw x C' (putD m d1 fs))))[i]? = some (some (.nw x C' (putD m d1 fs))) := List.getElem?_set_self (List.getElem?_eq_some_iff.mp h1).1
                have s4 := st_put (m := n) s3 h1' a1 n1 (if_pos rfl) h7
                rw [List.set_set] at s4
                exact k.nx _ _ G2 _ q2 (nw_gr g3 n1 _) e2 ⟨_, s4⟩
  | _ => exact q2.elim
end
abbrev FI := List D → (List D → Prop) → Prop
def hid2 (H : Hp) (x dx : Addr) : Hp := fun b => if b = x ∨ b = dx then none else H b
def spI (K : PySem.W.Frag) (B : Bx) (C : Nat) (S : FI) : Sp := fun vs H P _ => ∃ (x dx : Addr) (ws : List V) (G : Hp) (ds : List D) (Q : List D → Prop), vs = .ref x :: ws ∧ H x = some (.ins (B.ct C) dx []) ∧ H dx = some (.own x) ∧ dx ≠ x ∧ G x = none ∧ G dx = none ∧ Jn K B G H ∧ B.nb x ∧ B.nb dx ∧ Dats K B G ws ds ∧ S ds Q ∧
  ∀ fs us dy G2 H2, Q fs → Gr K B G (hid2 H x dx) G2 H2 → H2 x = some (SlX.SlO x (B.ct C) dy (us.map some)) → H2 dy = some (.xd []) → dy ≠ x → G2 x = none → G2 dy = none → hid2 H x dx dy = none → B.nb dy → Dats K B G2 us fs → P .non H2
def startI (n : Nat) (x : Addr) (C : Nat) (ds : List D) : DS := some (.nw x C []) :: (ds.map (fun d => some (.sh d)) ++ List.replicate (n - 1 - ds.length) none)
def endI (x : Addr) (C : Nat) (Q : List D → Prop) : DEnds where
  nx := fun (δ : DS) => match (δ[0]? : Option (Option SD)) with
    | some (some (.nw x' C' fs)) => (x' = x ∧ C' = C) ∧ ∃ ds, fs = ds.map some ∧ ds ≠ [] ∧ Q ds
    | _ => False
  rt := fun _ => False
theorem flds_all {K : PySem.W.Frag} {B : Bx} {G : Hp} : ∀ {vs : List (Option V)} {ds : List D}, FldOk K B G vs (ds.map some) → ∃ us, vs = us.map some ∧ Dats K B G us ds
  | [], [], _ => ⟨[], rfl, .nil⟩
  | [], _ :: _, h => nomatch h.1
  | _ :: _, [], h => nomatch h.1
  | v :: vs, d :: ds, h => by
    obtain ⟨u, e1, e2⟩ := h.2 0 d rfl
    cases e1
    obtain ⟨us, e3, e4⟩ := flds_all (vs := vs) (ds := ds) ⟨Nat.succ.inj h.1, fun i x e => h.2 (i + 1) x e⟩
    exact ⟨u :: us, by rw [e3]; rfl, .cons e2 e4⟩
section
variable {P : Program} {w : World} {K : PySem.W.Frag} {mg : Str → Option Value} {base : Heap}
/-- the __init__'s entry, by its promise -/
theorem init_lift {N : List Str} {B : Bx} {C : Nat} {S : FI} {t : DTS} {vs : List V} {H : Hp} {Q : VK} {E : XK} (hN : 1 ≤ N.length) (vc : ∀ x ds Q, S ds Q → t (endI x C Q) (startI N.length x C ds)) (h : spI K B C S vs H Q E) :
    liftS K B t { nx := fun _ H' => Q .non H', rt := Q } (L2.start N vs) H := by
  obtain ⟨x, dx, ws, G, ds, R, rfl, hx, hdx, ne, gx, gd, j, nbx, nbd, hd, hs, kk⟩ := h
  have g0 : Gr K B G (hid2 H x dx) G H := by
    refine ⟨Ex.refl G, fun a o _ h => ?_, j, fun _ _ => rfl⟩
    unfold hid2 at h
    split at h
    · cases h
    · exact h
  have s0 : StOk K B (hid2 H x dx) G H (L2.start N (.ref x :: ws)) (startI N.length x C ds) := by
    have base_ := start_ok (K := K) (B := B) (H0 := hid2 H x dx) (H := H) (N := N) (vs := .ref x :: ws) (ds := .bag :: ds) (G := G)
    have len0 : (L2.start N (.ref x :: ws)).length = (startI N.length x C ds).length := by
      unfold L2.start startI
      simp only [List.length_append, List.length_map, List.length_cons, List.length_replicate]
      rw [hd.len]
      omega
    have at0 : (L2.start N (.ref x :: ws))[0]? = some (some (.ref x)) := rfl
    have rest : ∀ (i : Nat) (y : SD), (startI N.length x C ds)[i + 1]? = some (some y) → ∃ d v, y = .sh d ∧ (L2.start N (.ref x :: ws))[i + 1]? = some (some v) ∧ Dat K B G v d := fun i y e => by
      have e : (ds.map (fun d => some (SD.sh d)) ++ List.replicate (N.length - 1 - ds.length) none)[i]? = some (some y) := e
      by_cases hi : i < ds.length
      · rw [List.getElem?_append_left (by rw [List.length_map]; exact hi), List.getElem?_map] at e
        cases hdd : ds[i]? with
        | none => rw [hdd] at e; cases e
        | some d' =>
          rw [hdd] at e
          cases e
          obtain ⟨v, h1, h2⟩ := hd.get hdd
          refine ⟨d', v, rfl, ?_, h2⟩
          show (ws.map some ++ List.replicate (N.length - (ws.length + 1)) none)[i]? = _
          rw [List.getElem?_append_left (by rw [List.length_map, hd.len]; exact hi), List.getElem?_map, h1]
          rfl
      · rw [List.getElem?_append_right (by rw [List.length_map]; omega), List.getElem?_replicate] at e
        split at e <;> cases e
    have none0 : ∀ (i : Nat) (od : Option SD), (startI N.length x C ds)[i + 1]? = some od → od = none ∨ ∃ y, od = some y := fun i od _ => by cases od with | none => exact .inl rfl | some y => exact .inr ⟨y, rfl⟩
    refine ⟨fun i => if i = 0 then [x, dx] else [], len0, fun i ov od e1 e2 => ?_, fun i j' _ _ hij p hp hq => ?_⟩
    · cases i with
      | zero =>
        rw [at0] at e1
        cases e1
        cases e2
        rw [if_pos rfl]
        exact .nw ⟨.inl ⟨hx, rfl⟩, .inl hdx, ne, gx, gd, by unfold hid2; rw [if_pos (.inl rfl)], by unfold hid2; rw [if_pos (.inr rfl)], nbx, nbd, rfl, fun i d e => nomatch e⟩
      | succ i =>
        rw [if_neg (Nat.succ_ne_zero i)]
        rcases none0 i od e2 with rfl | ⟨y, rfl⟩
        · exact .no
        · obtain ⟨d', v, rfl, h2, h3⟩ := rest i y e2
          rw [h2] at e1
          cases e1
          exact .sh h3
    · by_cases h1 : i = 0
      · have h2 : j' ≠ 0 := fun z => hij (h1.trans z.symm)
        rw [if_neg h2] at hq
        exact nomatch hq
      · rw [if_neg h1] at hp
        exact nomatch hp
  refine ⟨G, hid2 H x dx, G, startI N.length x C ds, endI x C R, g0, s0, vc x ds R hs, ⟨?_, ?_, ?_, ?_, ?_, ?_, ?_⟩⟩
  · intro σ δ G2 H2 q g _ s2
    have q : (match (δ[0]? : Option (Option SD)) with | some (some (.nw x' C' fs)) => (x' = x ∧ C' = C) ∧ ∃ ds, fs = ds.map some ∧ ds ≠ [] ∧ R ds | _ => False) := q
    cases h1 : δ[0]? with
    | none => rw [h1] at q; exact q.elim
    | some z =>
      cases z with
      | none => rw [h1] at q; exact q.elim
      | some y =>
        cases y with
        | sh _ => rw [h1] at q; exact q.elim
        | ow _ _ => rw [h1] at q; exact q.elim
        | nw x' C' fs =>
          rw [h1] at q
          obtain ⟨⟨rfl, rfl⟩, es, rfl, hne, q⟩ := q
          obtain ⟨d2, us, a1, n⟩ := s2.nw 0 x' C' _ h1
          obtain ⟨zs, rfl, hz⟩ := flds_all n.fl
          rcases n.sl with ⟨z1, z2⟩ | ⟨z1, z2⟩
          · have : zs = [] := by simpa using z2
            subst this
            cases hz
            exact absurd rfl hne
          · exact kk es zs d2 G2 H2 q g z1 z2 n.ne n.gx n.gd n.hd n.bd hz
  · exact fun σ δ G2 H2 q g _ s2 => q.elim
  · exact fun σ δ G2 H2 q g _ s2 => q.elim
  · exact fun d v G2 H2 q g _ hd => q.elim
  · exact fun o v f G2 H2 q g _ hd => q.elim
  · exact fun σ' δ'' d v G2 H2 q => q.elim
  · exact fun q' vs' os f G2 H2 q => q.elim
theorem fn_init {x qual : Str} {st : Stmt} {f : Addr} {fd : FuncData} {N ps : List Str} {k : Nat} {B : Bx} {C : Nat} {S : FI} {t : DTS} (F : Fun K x qual st f fd) (Sc : FnScope N ps (defScope st)) (len : ∀ ds Q, S ds Q → ds.length + 1 = ps.length) (hN : 1 ≤ N.length)
    (hbody : ∀ (cdv : Value) (A : Around) (outer : List Env) (s : Shared) (H : Hp) (E : XK), Room k (A.deeper (envOfC qual (defScope st) s.heap.objs.size f cdv)) → PSsD (cxOf CX0 P w K mg base N qual (defScope st) f cdv A outer s H E).nox B (defBody st) t)
    (vc : ∀ x ds Q, S ds Q → t (endI x C Q) (startI N.length x C ds)) : FnOk P w K mg base CX0 (k + 1) f fd ps (spI K B C S) := by
  refine F.ok Sc (fun vs H Q E h => ?_) (fun cdv A outer s H vs Q E hr h => ⟨_, hbody cdv A outer s H E hr, init_lift hN vc h⟩)
  obtain ⟨x, dx, ws, G, ds, R, rfl, _, _, _, _, _, _, _, _, hd, hs, _⟩ := h
  rw [List.length_cons, hd.len]
  exact len ds R hs
end
section
variable {X : Cx} {B : Bx} {e : Expr} {es : List Expr} {pos : Pos} {g : Addr} {k C : Nat} {x : Str} {ra : DA} {S : FI}
def dMake (C : Nat) (S : FI) (ra : DA) : DE := fun δ Q => ra δ fun ds => S ds fun fs => Q (.obj C fs)
theorem pd_make {fp : Pos} (M : Mk X.K (B.ct C) g) (F : FnR X.prog X.w X.K X.mg X.base CX0 k g (spI X.K B C S)) (hr : Room (k + 1) X.A) (hg : Gl X x) (hm : X.mg x = some (.ref (B.ct C))) (ha : PAD X B (e :: es) ra) (hdb : (x == ("__debug__" : Str)) = false := by decide)
    (he : starEach (e :: es) X.env = (false, eval e X.env) :: starEach es X.env := by rfl) (hpl : (backTo pos (starEach es X.env)).any (·.1) = false := by rfl) : PD X B (.Call (.Name x fp) (e :: es) [] pos) (dMake C S ra) := pe_mono (StX.pe_makeR (E := E0) M F hr hg hm pass0 ha hdb he hpl) fun σ H P q => by
  obtain ⟨H0, G, δ, Q, j, st, hr, k⟩ := q
  refine ⟨H0, G, δ, _, j, st, hr, fun ds vs G2 H2 q2 g2 h2 y dx hy hdx ne => ?_⟩
  have gy : G2 y = none := fresh_back g2.j.ex hy
  have gd : G2 dx = none := fresh_back g2.j.ex hdx
  have j1 : Jn X.K B G2 (upd (upd H2 dx (.own y)) y (.ins (B.ct C) dx [])) := by
    have a := Gr.new0 (o := .own y) g2.j hdx
    exact (Gr.new0 (o := .ins (B.ct C) dx []) a.j (by rw [upd_ne (Ne.symm ne)]; exact hy)).j
  have eh : hid2 (upd (upd H2 dx (.own y)) y (.ins (B.ct C) dx [])) y dx = H2 := by
    funext b
    unfold hid2
    by_cases h1 : b = y
    · subst h1; rw [if_pos (.inl rfl), hy]
    · by_cases h3 : b = dx
      · subst h3; rw [if_pos (.inr rfl), hdx]
      · rw [if_neg (fun z => z.elim h1 h3), upd_ne h1, upd_ne h3]
  refine ⟨y, dx, vs, G2, ds, _, rfl, upd_same, by rw [upd_ne ne, upd_same], ne, gy, gd, j1, Gr.neB g2.j hy, Gr.neB g2.j hdx, h2, q2, fun fs us dy G3 H3 q3 g3 z1 z2 z3 z4 z5 z6 z7 z8 => ⟨rfl, ?_⟩⟩
  rw [eh] at g3 z6
  have g4 := g3.frz (p := dy) z6 z5 z7 z2
  have g5 := g4.frz (p := y) hy (by rw [upd_ne (Ne.symm z3)]; exact z4) (Gr.neB g2.j hy) z1
  have e5 : Ex G3 (upd (upd G3 dy (.xd [])) y (SlX.SlO y (B.ct C) dy (us.map some))) := (Ex.new z5).trans (Ex.new (by rw [upd_ne (Ne.symm z3)]; exact z4))
  exact k _ _ _ _ q3 (g2.trans g5) (.obj upd_same (by rw [upd_ne z3, upd_same]) (z8.mono e5))
def dCallO (C : Nat) (Sf : FD) (r : DE) (ra : DA) : DE := fun δ Q => r δ fun d => isO C d ∧ ra δ fun ds => Sf (d :: ds) Q
end
end DL
namespace DL
open PySem PySem.Spec PyProof.Rows L2 Evl
structure DefAt (K : PySem.W.Frag) (mg : Str → Option Value) (x : Str) (st : Stmt) (ps : List Str) where
  f : Addr
  fd : FuncData
  fn : Fun K x x st f fd
  bd : Binds K fd ps []
  at_ : mg x = some (.ref f)
/-- a def within a class: its address and how it is bound -/
structure InAt (K : PySem.W.Frag) (x qual : Str) (st : Stmt) (ps : List Str) where
  f : Addr
  fd : FuncData
  fn : Fun K x qual st f fd
  bd : Binds K fd ps []
structure PrpAt (K : PySem.W.Frag) (C : Addr) (x : Str) (g : Addr) : Prop where
  ex : ∃ p, PySem.W.findIn K (.ref C) x = some (some (.ref p)) ∧ PySem.W.specialIn K (.ref p) "__get__" = some (some (.builtin "property.__get__")) ∧ PySem.W.takesIn K (.ref p) = some true ∧ ∃ rest, PySem.W.recIn K p "property" = some (.ref g :: rest)
structure SlotAt (K : PySem.W.Frag) (C : Addr) (x : Str) (i : Nat) : Prop where
  ex : ∃ p, SlX.Slot1 K C x p i
/-- by positions -/
theorem fn_r {P : Program} {w : World} {K : PySem.W.Frag} {mg : Str → Option Value} {base : Heap} {CX : CXT} {k : Nat} {f : Addr} {fd : FuncData} {ps : List Str} {sp : Sp} (F : FnOk P w K mg base CX k f fd ps sp) (b : Binds K fd ps []) : FnR P w K mg base CX k f sp :=
  (F.raw b .nil).imp fun vs H Q E h => by rw [List.append_nil]; exact h
section
variable {X : Cx} {B : Bx} {e o : Expr} {es : List Expr} {r : DE} {pos : Pos} {C k k' i : Nat} {S : FD} {ra : DA} {f m : Str} {g : Addr}
/-- f(..), a def of the module -/
theorem pd_callD {x : Str} {st : Stmt} {ps : List Str} {fp : Pos} (T : DefAt X.K X.mg x st ps) (F : FnOk X.prog X.w X.K X.mg X.base CX0 k T.f T.fd ps (spD X.K B S)) (hr : Room k' X.A) (hk : k ≤ k') (hg : Gl X x) (ha : PAD X B (e :: es) ra) (hd : (x == ("__debug__" : Str)) = false := by decide) (he : starEach (e :: es) X.env = (false, eval e X.env) :: starEach es X.env := by rfl) (hpl : (backTo pos (starEach es X.env)).any (·.1) = false := by rfl) :
    PD X B (.Call (.Name x fp) (e :: es) [] pos) (dCall S ra) := pd_call F (hr.mono hk) hg T.at_ T.fn.kp T.bd (E := E0) pass0 ha hd he hpl
theorem pd_callDG {x : Str} {st : Stmt} {ps : List Str} {fp : Pos} (T : DefAt X.K X.mg x st ps) (F : FnG X.prog X.w X.K X.mg X.base CX0 k T.f T.fd ps (spD X.K B S)) (hgd : X.A.guards = some []) (hr : Room k' X.A) (hk : k ≤ k') (hg : Gl X x) (ha : PAD X B (e :: es) ra) (hd : (x == ("__debug__" : Str)) = false := by decide) (he : starEach (e :: es) X.env = (false, eval e X.env) :: starEach es X.env := by rfl) (hpl : (backTo pos (starEach es X.env)).any (·.1) = false := by rfl) :
    PD X B (.Call (.Name x fp) (e :: es) [] pos) (dCall S ra) := pd_callG F hgd (hr.mono hk) hg T.at_ T.fn.kp T.bd (E := E0) pass0 ha hd he hpl
theorem pd_propD (c : SlX.SCls X.K (B.ct C)) (T : PrpAt X.K (B.ct C) f g) (F : FnR X.prog X.w X.K X.mg X.base CX0 k g (spD X.K B S)) (hr : Room k' X.A) (hk : k + 1 ≤ k') (he : PD X B e r) (hb : attributeBase e f X.env (eval e X.env) = eval e X.env := by rfl) :
    PD X B (.Attribute e f pos) (dProp C S r) := by
  obtain ⟨p, h1, h2, h3, h4⟩ := T.ex
  exact pd_prop c h1 h2 h3 h4 F (hr.mono hk) he hb
theorem pd_fldD (c : SlX.SCls X.K (B.ct C)) (T : SlotAt X.K (B.ct C) f i) (he : PD X B e r) (hb : attributeBase e f X.env (eval e X.env) = eval e X.env := by rfl) : PD X B (.Attribute e f pos) (dFld C i r) := by
  obtain ⟨p, h⟩ := T.ex
  exact pd_fld c h he hb
/-- x += e -/
def dAug (o : O2) (i : Nat) (r : DE) : DTS := fun W δ => match δ[i]? with
  | some (some (.sh d)) => r δ fun y => o d y fun z => W.nx (δ.set i (some (.sh z)))
  | _ => False
end
section
variable {X : Cx} {B : Bx} {e : Expr} {r : DE} {pos : Pos} {C i m n : Nat} {f f2 : Str}
theorem psd_self2D {o1 o2 : Expr} {k1 : Nat} {pa pb pt : Pos} (hc : X.calm = true) (c : SlX.SCls X.K (B.ct C)) (t : SlotAt X.K (B.ct C) f m) (t2 : SlotAt X.K (B.ct C) f2 n) (ho1 : PE X o1 (tVar i)) (ho2 : PE X o2 (tVar i)) (he : PD X B e r)
    (hn : (assignEach [.Attribute o1 f pa, .Attribute o2 f2 pb] X.env).length = 2 := by rfl) (hst : (assignEach [.Attribute o1 f pa, .Attribute o2 f2 pb] X.env).findIdx? (·.1) = none := by rfl)
    (ha1 : (assignEach [.Attribute o1 f pa, .Attribute o2 f2 pb] X.env).map (·.2) = assign (.Attribute o1 f pa) X.env :: (assignEach [.Attribute o2 f2 pb] X.env).map (·.2) := by rfl) (ha2 : (assignEach [.Attribute o2 f2 pb] X.env).map (·.2) = assign (.Attribute o2 f2 pb) X.env :: (assignEach [] X.env).map (·.2) := by rfl)
    (hs : swapsWithSole [.Tuple [.Attribute o1 f pa, .Attribute o2 f2 pb] k1 pt] e pos.line X.env = pure false := by rfl) (hw : swappedStores [.Tuple [.Attribute o1 f pa, .Attribute o2 f2 pb] k1 pt] e X.env = pure none := by rfl) (h1 : (assignEach [.Tuple [.Attribute o1 f pa, .Attribute o2 f2 pb] k1 pt] X.env).map (·.2) = [assign (.Tuple [.Attribute o1 f pa, .Attribute o2 f2 pb] k1 pt) X.env] := by rfl) :
    PSD X B (.Assign [.Tuple [.Attribute o1 f pa, .Attribute o2 f2 pb] k1 pt] e pos) (dSelf2 i m n C r) := by
  obtain ⟨p, h⟩ := t.ex
  obtain ⟨p2, h2⟩ := t2.ex
  exact psd_self2 hc c h h2 ho1 ho2 he hn hst ha1 ha2 hs hw h1
end
theorem get_list {X : Cx} : PGet X (fun o i H Q => ∃ p xs j v, o = .ref p ∧ i = .int ((j : Nat) : Int) ∧ SqL X.K H p xs ∧ xs[j]? = some v ∧ Q v H) := by
  intro pins s σ H o i ov iv Q I ro ri h
  obtain ⟨p, xs, j, v, rfl, rfl, hq, e, q⟩ := h
  cases ro
  obtain ⟨t, rfl⟩ := ri
  obtain ⟨its, r, pl, hz⟩ := I.list hq
  obtain ⟨w, ew, rw'⟩ := r.get e
  have hj := (List.getElem?_eq_some_iff.mp e).1
  exact getItem_listL pl.isList (by omega) (by have := line63; omega) ew ⟨v, H, I, rw', q⟩
end DL
namespace DL
open PySem PySem.Spec PyProof.Rows L2 Evl
theorem lc_map {i : Nat} {te : DE} {δ : DS} {Q : List D → Prop} (f : D → D) : ∀ (ds acc : List D), (∀ d ∈ ds, ∀ R : D → Prop, R (f d) → te (δ.set i (some (.sh d))) R) → Q (acc ++ ds.map f) → lcD (gN i) dYes te δ Q ds acc
  | [], acc, _, q => by
    rw [List.map_nil, List.append_nil] at q
    exact q
  | d :: ds, acc, h, q => by
    show te (δ.set i (some (.sh d))) fun y => lcD (gN i) dYes te δ Q ds (acc ++ [y])
    refine h d List.mem_cons_self _ (lc_map f ds _ (fun z hz => h z (List.mem_cons_of_mem _ hz)) ?_)
    rw [List.append_assoc]
    exact q
theorem ups_len (lo : Int) (n : Nat) : (ups lo n).length = n := by simp [ups]
theorem ups_succ (lo : Int) (n : Nat) : ups lo (n + 1) = .int lo :: ups (lo + 1) n := by
  unfold ups
  rw [List.range_succ_eq_map, List.map_cons, List.map_map]
  congr 1
  · simp
  · apply List.map_congr_left
    intro k _
    show D.int _ = D.int _
    congr 1
    simp only [Nat.succ_eq_add_one]
    omega
theorem ups_zero (lo : Int) : ups lo 0 = [] := rfl
theorem chars_len (x : Str) : (chars x).length = x.length := by simp [chars, Str.length]
theorem mem_chars {x : Str} {d : D} (h : d ∈ chars x) : ∃ c, c ∈ x.cps.toList ∧ d = .str ⟨#[c]⟩ := by
  unfold chars at h
  obtain ⟨c, hc, rfl⟩ := List.mem_map.mp h
  exact ⟨c, hc, rfl⟩
def sg (c : Nat) : D := .str ⟨#[c]⟩
theorem bls_map' {α : Type} (f : α → Bool) : ∀ ds : List α, blsOf (ds.map fun d => .bl (f d)) = some (ds.map f)
  | [] => rfl
  | d :: ds => by
    show (blsOf (ds.map fun d => .bl (f d))).map (f d :: ·) = _
    rw [bls_map' f ds]
    rfl
theorem strs_map {α : Type} (f : α → Str) : ∀ ds : List α, strsOf (ds.map fun d => .str (f d)) = some (ds.map f)
  | [] => rfl
  | d :: ds => by
    show (strsOf (ds.map fun d => .str (f d))).map (f d :: ·) = _
    rw [strs_map f ds]
    rfl
theorem strs_signs (cs : List Nat) : strsOf (cs.map sg) = some (cs.map fun c => ⟨#[c]⟩) := strs_map (fun c => (⟨#[c]⟩ : Str)) cs
def ofCodes (cs : List Nat) : Str := ⟨cs.toArray⟩
theorem tl_codes (cs : List Nat) : (ofCodes cs).cps.toList = cs := by simp [ofCodes]
theorem codes_len (cs : List Nat) : (ofCodes cs).length = cs.length := by simp [ofCodes, Str.length]
theorem str_ext {x y : Str} (h : x.cps.toList = y.cps.toList) : x = y := by
  cases x; cases y
  have h' := Array.toList_inj.mp h
  simp only at h'
  rw [h']
theorem len_toList (x : Str) : x.cps.toList.length = x.length := by simp [Str.length]
theorem glue_fold : ∀ (ps : List Str) (acc : Array Nat), (ps.foldl (fun acc p => acc ++ (Str.ofString "").cps ++ p.cps) acc).toList = acc.toList ++ (ps.map fun p => p.cps.toList).flatten
  | [], acc => by simp
  | p :: ps, acc => by
    rw [List.foldl_cons, glue_fold ps]
    have e : (Str.ofString "").cps = #[] := by decide +kernel
    rw [e]
    simp
theorem join_empty (ps : List Str) : Txt.join (Str.ofString "") ps = ofCodes (ps.map fun p => p.cps.toList).flatten := by
  apply str_ext
  rw [tl_codes]
  show ((ps.drop 1).foldl (fun acc p => acc ++ (Str.ofString "").cps ++ p.cps) (ps.headD Str.empty).cps).toList = _
  rw [glue_fold]
  cases ps with
  | nil => rfl
  | cons p ps => simp
theorem join_signs (cs : List Nat) : Txt.join (Str.ofString "") (cs.map fun c => ⟨#[c]⟩) = ofCodes cs := by
  rw [join_empty]
  congr 1
  induction cs with
  | nil => rfl
  | cons c cs ih => simpa using ih
theorem sum_ones (cs : List Nat) : ((cs.map fun c => (⟨#[c]⟩ : Str)).map (·.length)).sum = cs.length := by
  induction cs with
  | nil => rfl
  | cons c cs ih =>
    rw [List.map_cons, List.map_cons, List.sum_cons, ih, List.length_cons]
    show 1 + cs.length = cs.length + 1
    omega
theorem join_sz {cs : List Nat} (hz : cs.length ≤ 16777216) : ((cs.map fun c => (⟨#[c]⟩ : Str)).map fun x => x.length).sum + (cs.map fun c => (⟨#[c]⟩ : Str)).length * (Str.ofString "").length ≤ 16777216 := by
  have e : (Str.ofString "").length = 0 := by decide +kernel
  have := sum_ones cs
  rw [e, this]
  omega
theorem atI_pos {α : Type} {xs : List α} {i : Int} (h0 : 0 ≤ i) (h1 : i < xs.length) : atI xs i = some (xs[i.toNat]'(by omega)) := by
  have e : i = ((i.toNat : Nat) : Int) := by omega
  have h : xs[i.toNat]? = some (xs[i.toNat]'(by omega)) := List.getElem?_eq_getElem _
  have := atI_nat h
  rw [← e] at this
  exact this
theorem atI_q {α : Type} {xs : List α} {i : Int} {v : α} (h0 : 0 ≤ i) (h : xs[i.toNat]? = some v) : atI xs i = some v := by
  have e : i = ((i.toNat : Nat) : Int) := by omega
  rw [e]
  exact atI_nat h
theorem cut_to {α : Type} (xs : List α) (n : Nat) : cut xs none (some (n : Int)) = xs.take n := by
  unfold cut
  rw [HT.sIx_none, HT.sIx_nat, List.drop_zero, Nat.sub_zero]
  by_cases h : n ≤ xs.length
  · rw [Nat.min_eq_left h]
  · rw [Nat.min_eq_right (by omega), List.take_length, List.take_of_length_le (by omega)]
theorem cut_from {α : Type} (xs : List α) (n : Nat) : cut xs (some (n : Int)) none = xs.drop n := by
  unfold cut
  rw [HT.sIx_none, HT.sIx_nat]
  by_cases h : n ≤ xs.length
  · rw [Nat.min_eq_left h, List.take_of_length_le (by simp)]
  · rw [Nat.min_eq_right (by omega), Nat.sub_self, List.take_zero, List.drop_of_length_le (by omega)]
section
variable {α : Type} {a b c d e f g h : α} {xs : List α}
theorem atI0 : atI (a :: xs) 0 = some a := atI_nat (j := 0) rfl
theorem atI1 : atI (a :: b :: xs) 1 = some b := atI_nat (j := 1) rfl
theorem atI2 : atI (a :: b :: c :: xs) 2 = some c := atI_nat (j := 2) rfl
theorem atI3 : atI (a :: b :: c :: d :: xs) 3 = some d := atI_nat (j := 3) rfl
theorem atI4 : atI (a :: b :: c :: d :: e :: xs) 4 = some e := atI_nat (j := 4) rfl
theorem atI5 : atI (a :: b :: c :: d :: e :: f :: xs) 5 = some f := atI_nat (j := 5) rfl
theorem atI6 : atI (a :: b :: c :: d :: e :: f :: g :: xs) 6 = some g := atI_nat (j := 6) rfl
theorem atI7 : atI (a :: b :: c :: d :: e :: f :: g :: h :: xs) 7 = some h := atI_nat (j := 7) rfl
end
theorem eq_self {x : D} {Q : D → Prop} (h : plain x = true) (q : Q (.bl true)) : oEq x x Q := by
  have e : eqb x x = true := eqb_refl (Bool.and_eq_true_iff.mp h).1
  cases x with
  | str a => show Q (.bl (decide (a = a))); rw [decide_eq_true rfl]; exact q
  | int a => show Q (.bl (decide (a = a))); rw [decide_eq_true rfl]; exact q
  | bl a => show Q (.bl (a == a)); rw [beq_self_eq_true]; exact q
  | non => exact ⟨⟨h, h⟩, by rw [e]; exact q⟩
  | lst xs => exact ⟨⟨h, h⟩, by rw [e]; exact q⟩
  | tup xs => exact ⟨⟨h, h⟩, by rw [e]; exact q⟩
  | dic _ => exact ⟨⟨h, h⟩, by rw [e]; exact q⟩
  | obj _ _ => exact ⟨⟨h, h⟩, by rw [e]; exact q⟩
  | bag => exact ⟨⟨h, h⟩, by rw [e]; exact q⟩
  | ktup _ => exact ⟨⟨h, h⟩, by rw [e]; exact q⟩
def S__law_alike : FD := fun ds Q => match ds with
  | [x, y] => (x = y ∧ plain x = true ∧ x.wt ≤ 16000000) ∧ Q (.bl true)
  | _ => False
def S__law_take : FD := fun ds Q => match ds with
  | [.bag, .int n] => (0 < n ∧ n.natAbs.log2 < 9000) ∧ ∀ v, 0 ≤ v → v < n → Q (.int v)
  | _ => False
theorem small_log {n : Int} (h0 : 0 < n) (h1 : n < 1000000000) : n.natAbs.log2 < 9000 := by
  have h2 : n.natAbs.log2 < 30 := (Nat.log2_lt (by omega)).mpr (by omega)
  omega
end DL
namespace DL
open PySem PySem.Spec PyProof.Rows L2 Evl
section
variable {K : PySem.W.Frag} {mg : Str → Option Value} {h : Heap} {x qual : Str} {st : Stmt} {ps : List Str} {f C p : Addr} {oc : Value} {od an : Option Addr} {osl : Array (Option Value)} {kV doc pm cdv ct : Value} {rest : List Value}
def mkDef (X : K.In h) (G : h.Ns mainGlobals mg) (b : ∀ (kV doc pm : Value) (an : Option Addr) (cdv ct : Value) (us : List Value), us.length = ps.length → bindArgs (PySem.W.fnOf x x (defArgs st) (defBody st) (defScope st) .none kV doc pm an cdv ct) ⟨us, []⟩ = pure (ps.zip us))
    (a : PySem.W.nsIn K mainGlobals x = some (some (.ref f))) (l : K.lookup f = some ⟨oc, od, .func (PySem.W.fnOf x x (defArgs st) (defBody st) (defScope st) .none kV doc pm an cdv ct), osl⟩) (c : PySem.W.codeIn K cdv x = true) (k : PySem.W.keepIn K (.ref f) = true) : DefAt K mg x st ps :=
  ⟨f, _, fun_mk l c k, (fun_mk l c k).binds b, PySem.W.mg_of X G a⟩
def mkIn (b : ∀ (kV doc pm : Value) (an : Option Addr) (cdv ct : Value) (us : List Value), us.length = ps.length → bindArgs (PySem.W.fnOf x qual (defArgs st) (defBody st) (defScope st) .none kV doc pm an cdv ct) ⟨us, []⟩ = pure (ps.zip us))
    (l : K.lookup f = some ⟨oc, od, .func (PySem.W.fnOf x qual (defArgs st) (defBody st) (defScope st) .none kV doc pm an cdv ct), osl⟩) (c : PySem.W.codeIn K cdv qual = true) (k : PySem.W.keepIn K (.ref f) = true) : InAt K x qual st ps :=
  ⟨f, _, fun_mk l c k, (fun_mk l c k).binds b⟩
theorem ex_def (X : K.In h) (G : h.Ns mainGlobals mg) (b : ∀ (kV doc pm : Value) (an : Option Addr) (cdv ct : Value) (us : List Value), us.length = ps.length → bindArgs (PySem.W.fnOf x x (defArgs st) (defBody st) (defScope st) .none kV doc pm an cdv ct) ⟨us, []⟩ = pure (ps.zip us))
    (a : PySem.W.nsIn K mainGlobals x = some (some (.ref f))) (l : K.lookup f = some ⟨oc, od, .func (PySem.W.fnOf x x (defArgs st) (defBody st) (defScope st) .none kV doc pm an cdv ct), osl⟩) (c : PySem.W.codeIn K cdv x = true) (k : PySem.W.keepIn K (.ref f) = true) : Nonempty (DefAt K mg x st ps) := ⟨mkDef X G b a l c k⟩
/-- the law's own def: bound in every world -/
theorem ex_law {y : Str} (X : K.In h) (G : h.Ns mainGlobals mg) (b : ∀ (kV doc pm : Value) (an : Option Addr) (cdv ct : Value) (us : List Value), us.length = [y].length → bindArgs (PySem.W.fnOf x x (defArgs st) (defBody st) (defScope st) .none kV doc pm an cdv ct) ⟨us, []⟩ = pure ([y].zip us))
    (a : PySem.W.nsIn K mainGlobals x = some (some (.ref f))) (l : K.lookup f = some ⟨oc, od, .func (PySem.W.fnOf x x (defArgs st) (defBody st) (defScope st) .none kV doc pm an cdv ct), osl⟩) (c : PySem.W.codeIn K cdv x = true) (k : PySem.W.keepIn K (.ref f) = true) :
    ∃ t : DefAt K mg x st [y], ∀ (s : Shared) (v : Value), BindsTo s t.fd ⟨[v], []⟩ [(y, v)] := ⟨mkDef X G b a l c k, fun _ v => .of_eq (b kV doc pm an cdv ct [v] rfl)⟩
theorem ex_meth (b : ∀ (kV doc pm : Value) (an : Option Addr) (cdv ct : Value) (us : List Value), us.length = ps.length → bindArgs (PySem.W.fnOf x qual (defArgs st) (defBody st) (defScope st) .none kV doc pm an cdv ct) ⟨us, []⟩ = pure (ps.zip us))
    (a : PySem.W.findIn K (.ref C) x = some (some (.ref f))) (i : PySem.W.isFn K (.ref f) = true) (l : K.lookup f = some ⟨oc, od, .func (PySem.W.fnOf x qual (defArgs st) (defBody st) (defScope st) .none kV doc pm an cdv ct), osl⟩) (c : PySem.W.codeIn K cdv qual = true) (k : PySem.W.keepIn K (.ref f) = true) :
    ∃ t : InAt K x qual st ps, Meth K C x t.f := ⟨mkIn b l c k, a, i, k⟩
theorem ex_init (b : ∀ (kV doc pm : Value) (an : Option Addr) (cdv ct : Value) (us : List Value), us.length = ps.length → bindArgs (PySem.W.fnOf "__init__" qual (defArgs st) (defBody st) (defScope st) .none kV doc pm an cdv ct) ⟨us, []⟩ = pure (ps.zip us))
    (a : PySem.W.findIn K (.ref C) "__init__" = some (some (.ref f))) (i : PySem.W.isFn K (.ref f) = true) (l : K.lookup f = some ⟨oc, od, .func (PySem.W.fnOf "__init__" qual (defArgs st) (defBody st) (defScope st) .none kV doc pm an cdv ct), osl⟩) (c : PySem.W.codeIn K cdv qual = true) (k : PySem.W.keepIn K (.ref f) = true) (mk : PySem.W.makesIn K C = true) (kc : PySem.W.keepIn K (.ref C) = true) :
    ∃ t : InAt K "__init__" qual st ps, Mk K C t.f := ⟨mkIn b l c k, mk, a, i, kc⟩
theorem ex_prop (b : ∀ (kV doc pm : Value) (an : Option Addr) (cdv ct : Value) (us : List Value), us.length = ps.length → bindArgs (PySem.W.fnOf x qual (defArgs st) (defBody st) (defScope st) .none kV doc pm an cdv ct) ⟨us, []⟩ = pure (ps.zip us))
    (a : PySem.W.findIn K (.ref C) x = some (some (.ref p))) (g : PySem.W.specialIn K (.ref p) "__get__" = some (some (.builtin "property.__get__"))) (tk : PySem.W.takesIn K (.ref p) = some true) (r : PySem.W.recIn K p "property" = some (.ref f :: rest))
    (l : K.lookup f = some ⟨oc, od, .func (PySem.W.fnOf x qual (defArgs st) (defBody st) (defScope st) .none kV doc pm an cdv ct), osl⟩) (c : PySem.W.codeIn K cdv qual = true) (k : PySem.W.keepIn K (.ref f) = true) :
    ∃ t : InAt K x qual st ps, PrpAt K C x t.f := ⟨mkIn b l c k, p, a, g, tk, rest, r⟩
theorem ex_slot {i : Nat} (a : PySem.W.findIn K (.ref C) x = some (some (.ref p))) (g : PySem.W.specialIn K (.ref p) "__get__" = some (some (.builtin "member_descriptor.__get__"))) (tk : PySem.W.takesIn K (.ref p) = some true) (ty : PySem.W.typeIn K (.ref p) = some (.type "member_descriptor")) (ix : PySem.W.slotIn K p C = some i) (lt : i < 1000) : SlotAt K C x i := ⟨p, a, g, tk, ty, ix, lt⟩
end
end DL
namespace DL
open PySem PySem.Spec PyProof.Rows L2 Evl
section
variable {X : Cx} {B : Bx} {e : Expr} {r : DE} {pos : Pos} {C : Nat}
def oIAdd : O2 := fun x y Q => match x, y with
  | .int i, .int j => Q (.int (i + j))
  | .str a, .str b => a.length + b.length ≤ sizeLine ∧ Q (.str (a ++ b))
  | _, _ => False
theorem iop_add_d : OpR X (inplaceOp .Add) (rLift X.K B oIAdd) := by
  intro pins s σ H x y v u P I rx ry q
  obtain ⟨G, dx, dy, Q, j, hx, hy, hq, k⟩ := q
  cases hx with
  | int a =>
    cases hy with
    | int b => exact iop_add pins s σ H _ _ v u P I rx ry ⟨a, b, rfl, rfl, k _ _ G H hq (Gr.refl j) (.int _)⟩
    | _ => exact hq.elim
  | str a =>
    cases hy with
    | str b => exact iop_add_str pins s σ H _ _ v u P I rx ry ⟨a, b, rfl, rfl, hq.1, k _ _ G H hq.2 (Gr.refl j) (.str _)⟩
    | _ => exact hq.elim
  | _ => exact hq.elim
theorem psd_aug {i : Nat} {x : Str} {op : Operator} {o : O2} {pos' : Pos} (hN : X.N.Nodup) (hi : X.N[i]? = some x) (hx : Loc X.env.scope x) (ho : OpR X (inplaceOp op) (rLift X.K B o)) (he : PD X B e r) (hf : X.fn x = true ∨ X.env.scope.names.lookup x = some .local := by first | exact .inl rfl | exact .inr rfl | assumption) :
    PSD X B (.AugAssign (.Name x pos') op e pos) (dAug o i r) := ps_mono (ps_aug hN hi hx he ho hf) fun E σ H q => by
  obtain ⟨G0, H0, G, δ, W, g0, st, h, k⟩ := q
  unfold dAug at h
  cases h1 : δ[i]? with
  | none => rw [h1] at h; exact h.elim
  | some o' =>
    cases o' with
    | none => rw [h1] at h; exact h.elim
    | some z =>
      cases z with
      | ow xs => rw [h1] at h; exact h.elim
      | nw _ _ _ => rw [h1] at h; exact h.elim
      | sh d =>
        rw [h1] at h
        obtain ⟨v, hv, hd⟩ := st.sh i d h1
        refine ⟨v, hv, H0, G, δ, _, g0.j, st, h, fun y u G2 H2 q2 g2 h2 => ?_⟩
        refine ⟨G2, d, y, _, g2.j, hd.mono g2.ex, h2, q2, fun z w G3 H3 q3 g3 h3 => ?_⟩
        exact k.nx _ _ _ _ q3 ((g0.trans g2).trans g3) (g2.ex.trans g3.ex) (((st.gr g2).gr g3).set h3)
theorem Owns.len {K : PySem.W.Frag} {G H : Hp} : ∀ {vs : List V} {xs : List OD} {f : List Addr}, Owns K B G H vs xs f → vs.length = xs.length
  | _, _, _, .nil => rfl
  | _, _, _, .cons _ t => by rw [List.length_cons, List.length_cons, Owns.len t]
theorem Owns.append {K : PySem.W.Frag} {G H : Hp} : ∀ {vs ws : List V} {xs ys : List OD} {f g : List Addr}, Owns K B G H vs xs f → Owns K B G H ws ys g → Owns K B G H (vs ++ ws) (xs ++ ys) (f ++ g)
  | _, _, _, _, _, _, .nil, s => s
  | _, _, _, _, _, _, .cons h t, s => by rw [List.append_assoc]; exact .cons h (Owns.append t s)
/-- what stands behind the top is kept -/
theorem Owns.past {K : PySem.W.Frag} {G H : Hp} {vs : List V} {xs : List OD} {f : List Addr} {p : Addr} {ho : HO} (h : Owns K B G H vs xs f) (hp : p ∉ f) : Owns K B G (upd H p ho) vs xs f := h.keep (Ex.refl G) fun q hq => ⟨upd_ne fun e => hp (e ▸ hq), rfl⟩
end
end DL
namespace DL
open PySem PySem.Spec PyProof.Rows L2 Evl
section
variable {X : Cx} {B : Bx} {g : Addr} {C k : Nat} {S : FD}
def oOwnNe (C : Nat) (S : FD) : O2 := fun x y Q => isO C x ∧ isO C y ∧ S [x, y] fun z => match z with
  | .bl b => Q (.bl (!b))
  | _ => False
end
end DL
namespace DL
open PySem PySem.Spec PyProof.Rows L2 Evl
def zipS (ks : List Str) (ds : List D) : List (D × D) := (ks.zip ds).map fun z => (.str z.1, z.2)
def dDic (ks : List Str) (ra : DA) : DE := fun δ Q => ra δ fun ds => match decide (ds.length = ks.length) with
  | true => Q (.dic (zipS ks ds))
  | false => False
def liftP (K : PySem.W.Frag) (B : Bx) (ks : List Str) (ra : DA) (σ : L2.St) (H : Hp) (P : List (V × V) → Hp → Prop) : Prop := ∃ (H0 G : Hp) (δ : DS) (Q : List D → Prop), Jn K B G H ∧ StOk K B H0 G H σ δ ∧ ra δ Q ∧ ∀ ds vs G2 H2, Q ds → Gr K B G H G2 H2 → Dats K B G2 vs ds → P ((ks.zip vs).map fun z => (.str z.1, z.2)) H2
structure PPD (X : Cx) (B : Bx) (pos : Pos) (keys : List (Option Expr)) (values : List Expr) (ks : List Str) (ra : DA) : Prop where
  ex : ∃ trs, PPs X pos keys values trs ∧ ∀ σ H P, liftP X.K B ks ra σ H P → tPairs trs σ H P
section
variable {X : Cx} {B : Bx} {pos : Pos} {keys : List (Option Expr)} {values : List Expr} {ks : List Str} {ra : DA} {r ry : DE} {e o i : Expr}
theorem ppd_nil : PPD X B pos [] [] [] dNil := ⟨[], pps_nil, fun σ H P q => by
  obtain ⟨H0, G, δ, Q, j, st, hr, k⟩ := q
  exact k [] [] G H hr (Gr.refl j) .nil⟩
theorem ppd_cons {x : Str} {j : Nat} {kp : Pos} (hv : PD X B e r) (h : PPD X B pos keys values ks ra) : PPD X B pos (some (.Constant (.str x) j kp) :: keys) (e :: values) (x :: ks) (dCons r ra) := by
  obtain ⟨trs, h1, h2⟩ := h.ex
  refine ⟨(tC (.str x), liftE X.K B r) :: trs, pps_cons pe_str hv h1, fun σ H P q => ?_⟩
  obtain ⟨H0, G, δ, Q, jn, st, hr, k⟩ := q
  refine ⟨H0, G, δ, _, jn, st, hr, fun d v G2 H2 q2 g2 d2 => ?_⟩
  refine h2 σ H2 _ ⟨H0, G2, δ, _, g2.j, st.gr g2, q2, fun ds vs G3 H3 q3 g3 d3 => ?_⟩
  exact k _ _ G3 H3 q3 (g2.trans g3) (.cons (d2.mono g3.ex) d3)
theorem merge_nd : ∀ (kvs acc : List (Key × V)), ((acc ++ kvs).map (·.1)).Nodup → mergeK acc kvs = acc ++ kvs
  | [], acc, _ => by rw [List.append_nil]; rfl
  | (k, v) :: r, acc, h => by
    have e : putK acc k v = acc ++ [(k, v)] := by
      unfold putK
      rw [if_neg]
      intro z
      obtain ⟨kv, h1, h2⟩ := List.any_eq_true.mp z
      have h2 : kv.1 = k := of_decide_eq_true h2
      rw [List.map_append, List.nodup_append] at h
      exact h.2.2 kv.1 (List.mem_map_of_mem h1) k (by simp) h2
    show mergeK (putK acc k v) r = _
    rw [e, merge_nd r _ (by rw [List.append_assoc]; exact h), List.append_assoc]
    rfl
theorem datK_zip {K : PySem.W.Frag} {G : Hp} : ∀ {ks : List Str} {vs : List V} {ds : List D}, Dats K B G vs ds → DatK K B G ((ks.zip vs).map fun z => (.inr z.1, z.2)) (zipS ks ds)
  | [], _, _, _ => .nil
  | _ :: _, _, _, .nil => .nil
  | k :: ks, _, _, .cons h t => .consS h (datK_zip (ks := ks) t)
/-- what is new is locked for ever -/
theorem pe_lockR {t t' : TE} (h : PE X e t) (m : ∀ σ H Q, t' σ H Q → t σ H fun v H1 => ∃ d u, H1 d = some u ∧ Mut (some u) ∧ ∀ od, Q v (upd H1 d (.frz od u))) : PE X e t' := ⟨fun pins s σ H Q I hw => thn (h.run pins s σ H _ I (m σ H Q hw)) fun u s1 ⟨v, H1, I1, r1, d, o, hd, mu, q⟩ => by
  obtain ⟨od, I2⟩ := I1.lock hd mu
  exact ⟨v, _, I2, r1, q od⟩⟩
theorem pd_dic (h : PPD X B pos keys values ks ra) (hn : ks.Nodup) (hk : keys.all (·.isSome) = true) (hl : keys.length = values.length) (h0 : keys ≠ []) (h15 : keys.length ≤ 15) (hks : ks.length ≤ 15) : PD X B (.Dict keys values pos) (dDic ks ra) := by
  obtain ⟨trs, h1, h2⟩ := h.ex
  refine pe_lockR (pe_disp h1 hk hl h0 h15) fun σ H P q p hp => ?_
  obtain ⟨H0, G, δ, Q, j, st, hr, k⟩ := q
  have g1 : Gr X.K B G H G (upd H p (.dK [])) := Gr.new0 j hp
  have nb : B.nb p := Gr.neB j hp
  have gp : G p = none := fresh_back j.ex hp
  have hpn : Mu (upd H p (.dK [])) p := ⟨_, upd_same, nl rfl⟩
  refine h2 σ _ _ ⟨H0, G, δ, _, g1.j, st.gr g1, hr, fun ds vs G2 H2 q2 g2 d2 => ?_⟩
  have e2 : H2 p = some (.dK []) := g2.keep p _ nb upd_same
  have gp2 : G2 p = none := by rw [g2.old p hpn]; exact gp
  have q2 : (match decide (ds.length = ks.length) with | true => Q (.dic (zipS ks ds)) | false => False) := q2
  cases hz : decide (ds.length = ks.length) with
  | false => rw [hz] at q2; exact q2.elim
  | true =>
    rw [hz] at q2
    have hlen := of_decide_eq_true hz
    refine ⟨e2, (ks.zip vs).map fun z => (.inr z.1, z.2), by rw [List.map_map]; rfl, ?_, ?_⟩
    · rw [List.length_map, List.length_zip]; omega
    · have nd : ((([] : List (Key × V)) ++ (ks.zip vs).map fun z : Str × V => ((Sum.inr z.1 : Key), z.2)).map fun x : Key × V => x.1).Nodup := by
        rw [List.nil_append, List.map_map]
        have : ((fun x : Key × V => x.1) ∘ fun z : Str × V => (Sum.inr z.1, z.2)) = (fun x : Str => (Sum.inr x : Key)) ∘ Prod.fst := rfl
        rw [this, ← List.map_map, List.map_fst_zip (by rw [d2.len]; omega)]
        exact List.Pairwise.map _ (fun a b hab z => hab (Sum.inr.inj z)) hn
      rw [merge_nd _ _ nd, List.nil_append]
      refine ⟨p, _, upd_same, trivial, fun od => ?_⟩
      have g3 : Gr X.K B G H G2 (upd (upd H2 p (.dK ((ks.zip vs).map fun z => (.inr z.1, z.2)))) p (.frz od (.dK ((ks.zip vs).map fun z => (.inr z.1, z.2))))) := ((g1.trans g2).own hp gp2 nb).own hp gp2 nb
      exact k _ _ _ _ q2 (g3.frz hp gp2 nb upd_same) (.dK upd_same ((datK_zip d2).mono (Ex.new gp2)))
/-- what stands at a key -/
def keq : D → D → Bool
  | .int a, .int b => decide (a = b)
  | .str a, .str b => decide (a = b)
  | _, _ => false
def lookD (ks : List (D × D)) (y : D) : Option D := (ks.find? fun kv => keq kv.1 y).map (·.2)
theorem look_k {K : PySem.W.Frag} {G : Hp} {k : Key} {y : D} (hy : (match k with | .inl i => D.int i | .inr x => D.str x) = y) : ∀ {kvs : List (Key × V)} {ds : List (D × D)} {d : D}, DatK K B G kvs ds → lookD ds y = some d → ∃ v, valV kvs k = some v ∧ Dat K B G v d
  | _, _, d, .nil, h => by cases h
  | _, _, d, .consI (i := i) hv ht, h => by
    unfold lookD at h
    rw [List.find?_cons] at h
    subst hy
    cases k with
    | inl i' =>
      by_cases e : i = i'
      · subst e
        have : keq (.int i) (.int i) = true := decide_eq_true rfl
        simp only [this, Option.map_some] at h
        cases h
        exact ⟨_, valV_pos rfl, hv⟩
      · have : keq (.int i) (.int i') = false := decide_eq_false e
        simp only [this] at h
        obtain ⟨v, h1, h2⟩ := look_k (k := .inl i') rfl ht h
        exact ⟨v, by rw [valV_neg (fun z => e (Sum.inl.inj z))]; exact h1, h2⟩
    | inr x =>
      have : keq (.int i) (.str x) = false := rfl
      simp only [this] at h
      obtain ⟨v, h1, h2⟩ := look_k (k := .inr x) rfl ht h
      exact ⟨v, by rw [valV_neg (by intro z; cases z)]; exact h1, h2⟩
  | _, _, d, .consS (x := x) hv ht, h => by
    unfold lookD at h
    rw [List.find?_cons] at h
    subst hy
    cases k with
    | inr x' =>
      by_cases e : x = x'
      · subst e
        have : keq (.str x) (.str x) = true := decide_eq_true rfl
        simp only [this, Option.map_some] at h
        cases h
        exact ⟨_, valV_pos rfl, hv⟩
      · have : keq (.str x) (.str x') = false := decide_eq_false e
        simp only [this] at h
        obtain ⟨v, h1, h2⟩ := look_k (k := .inr x') rfl ht h
        exact ⟨v, by rw [valV_neg (fun z => e (Sum.inr.inj z))]; exact h1, h2⟩
    | inl i =>
      have : keq (.str x) (.int i) = false := rfl
      simp only [this] at h
      obtain ⟨v, h1, h2⟩ := look_k (k := .inl i) rfl ht h
      exact ⟨v, by rw [valV_neg (by intro z; cases z)]; exact h1, h2⟩
def isKey : D → Bool
  | .int _ => true
  | .str _ => true
  | _ => false
/-- d[k], a key that is a number or a text -/
def dDGet (r ry : DE) : DE := fun δ Q => r δ fun d => ry δ fun y => match d with
  | .dic ks => isKey y = true ∧ match lookD ks y with
    | some v => Q v
    | none => False
  | _ => False
theorem lookT_none {K : PySem.W.Frag} {G : Hp} {y : D} (f : isKey y = true) : ∀ {kvs : List (List Key × V)} {ds : List (D × D)}, DatT K B G kvs ds → lookD ds y = none
  | _, _, .nil => rfl
  | _, _, .cons _ t => by
    unfold lookD
    rw [List.find?_cons]
    have : ∀ l, keq (.tup l) y = false := fun l => by cases y <;> rfl
    simp only [this]
    exact lookT_none f t
theorem pd_dget (hu : X.A.units + 1 < cLine) (ho : PD X B o r) (hi : PD X B i ry) (hs : NoSl i) : PD X B (.Subscript o i pos) (dDGet r ry) := pe_mono (pe_dget hu ho hi hs) fun σ H P q => by
  obtain ⟨H0, G, δ, Q, j, st, hr, k⟩ := q
  refine ⟨H0, G, δ, _, j, st, hr, fun d v G2 H2 q2 g2 d2 => ?_⟩
  refine ⟨H0, G2, δ, _, g2.j, st.gr g2, q2, fun y u G3 H3 q3 g3 d3 => ?_⟩
  have d4 := d2.mono g3.ex
  have fin : ∀ w x, Q w → Dat X.K B G3 x w → P x H3 := fun w x qw dw => k w x G3 H3 qw (g2.trans g3) dw
  cases d4 with
  | @dK a od kvs ds h1 h2 =>
    have q3 : isKey y = true ∧ (match lookD ds y with | some v => Q v | none => False) := q3
    obtain ⟨f, q4⟩ := q3
    clear q3
    cases hl : lookD ds y with
    | none => rw [hl] at q4; exact q4.elim
    | some w =>
      rw [hl] at q4
      cases d3 with
      | int n =>
        obtain ⟨v, e1, e2⟩ := look_k (k := .inl n) rfl h2 hl
        exact ⟨a, v, rfl, .inl ⟨kvs, .inl n, .inr ⟨od, g3.j.ex _ _ h1⟩, rfl, e1.symm⟩, fin _ _ q4 e2⟩
      | str x =>
        obtain ⟨v, e1, e2⟩ := look_k (k := .inr x) rfl h2 hl
        exact ⟨a, v, rfl, .inl ⟨kvs, .inr x, .inr ⟨od, g3.j.ex _ _ h1⟩, rfl, e1.symm⟩, fin _ _ q4 e2⟩
      | _ => cases f
  | @dT a od kvs ds h1 h2 =>
    have q3 : isKey y = true ∧ (match lookD ds y with | some v => Q v | none => False) := q3
    rw [lookT_none q3.1 h2] at q3
    exact q3.2.elim
  | _ => exact q3.elim
end
theorem room_u1 {k : Nat} {A : Around} (r : Room k A) : A.units + 1 < cLine := by have := r.un; omega
/-- a comprehension over what a list of one's own tells -/
theorem lc_of {α : Type} {i : Nat} {te : DE} {δ : DS} {Q : List D → Prop} (g h : α → D) : ∀ (xs : List α) (acc : List D), (∀ x ∈ xs, ∀ R : D → Prop, R (h x) → te (δ.set i (some (.sh (g x)))) R) → Q (acc ++ xs.map h) → lcD (gN i) dYes te δ Q (xs.map g) acc
  | [], acc, _, q => by
    rw [List.map_nil, List.append_nil] at q
    exact q
  | x :: xs, acc, hx, q => by
    show te (δ.set i (some (.sh (g x)))) fun y => lcD (gN i) dYes te δ Q (xs.map g) (acc ++ [y])
    refine hx x List.mem_cons_self _ (lc_of g h xs _ (fun z hz => hx z (List.mem_cons_of_mem _ hz)) ?_)
    rw [List.append_assoc]
    exact q
end DL
namespace DL
open PySem PySem.Spec PyProof.Rows L2 Evl
def EvD (r : DE) (δ : DS) (P : D → Prop) : Prop := ∀ Q : D → Prop, (∀ d, P d → Q d) → r δ Q
section
variable {δ : DS} {P P1 P2 : D → Prop} {r r1 r2 : DE} {ra : DA} {W : DEnds} {u : DTS} {i j : Nat}
theorem ev_var {d : D} (h : δ[i]? = some (some (.sh d))) (p : P d) : EvD (dVar i) δ P := fun Q k => by
  unfold dVar
  rw [h]
  exact k d p
theorem ev_c {d : D} (p : P d) : EvD (dC d) δ P := fun Q k => k d p
theorem EvD.mono (h : EvD r δ P1) (w : ∀ d, P1 d → P d) : EvD r δ P := fun Q k => h Q fun d p => k d (w d p)
end
theorem ints_v {K : PySem.W.Frag} {B : Bx} {G : Hp} : ∀ {ns : List Int} {vs : List V}, Dats K B G vs (ns.map D.int) → vs = ns.map V.int
  | [], _, .nil => rfl
  | _ :: _, _, .cons h t => by
    cases h
    rw [ints_v t]
    rfl
def cMaxL : FD := fun ds Q => match ds with
  | [.lst xs] => ∃ ns : List Int, xs = ns.map .int ∧ 0 < ns.length ∧ ∀ m, m ∈ ns → (∀ y, y ∈ ns → y ≤ m) → Q (.int m)
  | _ => False
def cSumL : FD := fun ds Q => match ds with
  | [.lst xs] => ∃ ns : List Int, xs = ns.map .int ∧ Q (.int ns.sum)
  | _ => False
section
variable {X : Cx} {B : Bx}
theorem call_maxL_d (hc : X.calm = true) : CallR X (.builtin "max") (cLift X.K B cMaxL) := by
  intro pins s σ H vs us P I rv q
  obtain ⟨G, ds, Q, j, hd, hq, k⟩ := q
  cases hd with
  | nil => exact hq.elim
  | cons h1 h2 =>
    cases h1 with
    | lst hp t =>
      cases h2 with
      | cons _ _ => exact hq.elim
      | nil =>
        obtain ⟨ns, rfl, hl, hm⟩ := hq
        have e := ints_v t
        subst e
        exact cr_max hc pins s σ H _ us P I rv ⟨_, ns, rfl, sq_of (j.ex _ _ hp), hl, fun m h3 h4 => k _ _ G H (hm m h3 h4) (Gr.refl j) (.int _)⟩
    | _ => exact hq.elim
theorem call_sumL_d (hc : X.calm = true) : CallR X (.builtin "sum") (cLift X.K B cSumL) := by
  intro pins s σ H vs us P I rv q
  obtain ⟨G, ds, Q, j, hd, hq, k⟩ := q
  cases hd with
  | nil => exact hq.elim
  | cons h1 h2 =>
    cases h1 with
    | lst hp t =>
      cases h2 with
      | cons _ _ => exact hq.elim
      | nil =>
        obtain ⟨ns, rfl, hm⟩ := hq
        have e := ints_v t
        subst e
        exact cr_sum hc pins s σ H _ us P I rv ⟨_, ns, rfl, sq_of (j.ex _ _ hp), k _ _ G H hm (Gr.refl j) (.int _)⟩
    | _ => exact hq.elim
end
end DL
namespace DL
open PySem PySem.Spec PyProof.Rows L2 Evl
open Sem (wp)
end DL
namespace DL
open PySem PySem.Spec PyProof.Rows L2 Evl
theorem lc_fof {α : Type} {i : Nat} {tt : DT} {te : DE} {δ : DS} {Q : List D → Prop} (g h : α → D) (p : α → Bool) : ∀ (xs : List α) (acc : List D), (∀ x ∈ xs, ∀ R : Bool → Prop, R (p x) → tt (δ.set i (some (.sh (g x)))) R) → (∀ x ∈ xs, p x = true → ∀ R : D → Prop, R (h x) → te (δ.set i (some (.sh (g x)))) R) →
    Q (acc ++ (xs.filter p).map h) → lcD (gN i) tt te δ Q (xs.map g) acc
  | [], acc, _, _, q => by
    rw [List.filter_nil, List.map_nil, List.append_nil] at q
    exact q
  | x :: xs, acc, h1, h2, q => by
    show tt (δ.set i (some (.sh (g x)))) fun b => if b = true then te (δ.set i (some (.sh (g x)))) fun y => lcD (gN i) tt te δ Q (xs.map g) (acc ++ [y]) else lcD (gN i) tt te δ Q (xs.map g) acc
    refine h1 x List.mem_cons_self _ ?_
    cases hp : p x with
    | true =>
      rw [if_pos rfl]
      refine h2 x List.mem_cons_self hp _ (lc_fof g h p xs _ (fun z hz => h1 z (List.mem_cons_of_mem _ hz)) (fun z hz => h2 z (List.mem_cons_of_mem _ hz)) ?_)
      rw [List.filter_cons, if_pos hp] at q
      rw [List.append_assoc]
      exact q
    | false =>
      rw [if_neg Bool.false_ne_true]
      refine lc_fof g h p xs _ (fun z hz => h1 z (List.mem_cons_of_mem _ hz)) (fun z hz => h2 z (List.mem_cons_of_mem _ hz)) ?_
      rw [List.filter_cons, if_neg (by rw [hp]; exact Bool.false_ne_true)] at q
      exact q
end DL
namespace DL
open PySem PySem.Spec PyProof.Rows L2 Evl
def iteS (b : Bool) (t u : DTS) (W : DEnds) (δ : DS) : Prop := if b = true then t W δ else u W δ
def iteE (b : Bool) (r u : DE) (δ : DS) (Q : D → Prop) : Prop := if b = true then r δ Q else u δ Q
def anE (x : D) (r : DE) (δ : DS) (Q : D → Prop) : Prop := match x with
  | .bl c => if c = true then r δ Q else Q (.bl false)
  | _ => False
def orE (x : D) (r : DE) (δ : DS) (Q : D → Prop) : Prop := match x with
  | .bl c => if c = true then Q (.bl true) else r δ Q
  | _ => False
def anT (b : Bool) (u : DT) (δ : DS) (Q : Bool → Prop) : Prop := if b = true then u δ Q else Q false
def orT (b : Bool) (u : DT) (δ : DS) (Q : Bool → Prop) : Prop := if b = true then Q true else u δ Q
def notB (b : Bool) (Q : Bool → Prop) : Prop := Q (!b)
def blD (x : D) (Q : Bool → Prop) : Prop := match x with
  | .bl b => Q b
  | _ => False
def seqD (d : D) (Q : List D → Prop) : Prop := match d with
  | .lst xs => Q xs
  | .tup xs => Q xs
  | .str x => Q (chars x)
  | _ => False
def starD (x : D) (K : List D → Prop) : Prop := match x with
  | .tup xs => K xs
  | .lst xs => K xs
  | _ => False
def szD (n : Nat) (P : Prop) : Prop := match decide (n ≤ 1000) with
  | true => P
  | false => False
def tupD (d : D) (n : Nat) (K : List D → Prop) : Prop := match d with
  | .tup ds => match decide (ds.length = n) with
    | true => K ds
    | false => False
  | _ => False
def lstD (d : D) (n : Nat) (K : List D → Prop) : Prop := match d with
  | .lst ds => match decide (ds.length = n) with
    | true => K ds
    | false => False
  | _ => False
def atD (o : Option D) (Q : D → Prop) : Prop := match o with
  | some d => Q d
  | none => False
def atC (o : Option Nat) (Q : D → Prop) : Prop := match o with
  | some c => Q (.str ⟨#[c]⟩)
  | none => False
def slotD (o : Option (Option SD)) (Q : D → Prop) : Prop := match o with
  | some (some (.sh d)) => Q d
  | _ => False
def ownO (o : Option (Option SD)) (K : V → OD → Prop) : Prop := match o with
  | some (some (.ow v x)) => K v x
  | _ => False
def intO (x : D) (Q : Option Int → Prop) : Prop := match x with
  | .int i => Q (some i)
  | _ => False
def headL (ds : List D) (K : D → List D → Prop) : Prop := match ds with
  | d :: ds => K d ds
  | [] => False
def nilL (ds : List D) (P : Prop) : Prop := match ds with
  | [] => P
  | _ => False
section
variable {δ : DS} {Q : D → Prop} {QL : List D → Prop} {QB : Bool → Prop} {QO : Option Int → Prop} {QS : DS → Prop} {W : DEnds} {r ra rb : DE} {rA : DA} {tc t u : DT} {ts us : DTS} {a b : Int} {x y : Str} {xs ys ds : List D} {p q : Bool} {n : Bool} {lo hi : Option Int} {rlo rhi : DO} {d : D} {i j k : Nat} {o2 : O2} {o1 : O1} {S : FD} {g : DG} {gs : DGs} {P : Prop} {K : List D → Prop} {vs : List Nat}
theorem z_var0 : dVar 0 (some (.sh d) :: δ) Q = Q d := propext Iff.rfl
theorem z_varS {o : Option SD} : dVar (i + 1) (o :: δ) Q = dVar i δ Q := propext Iff.rfl
theorem z_slot : slotD (some (some (.sh d))) Q = Q d := propext Iff.rfl
theorem z_c : dC d δ Q = Q d := propext Iff.rfl
theorem z_nil : dNil δ QL = QL [] := propext Iff.rfl
theorem z_cons : dCons r rA δ QL = r δ fun x => rA δ fun xs => QL (x :: xs) := propext Iff.rfl
theorem z_tup : dTup rA δ Q = rA δ fun ds => szD ds.length (Q (.tup ds)) := propext Iff.rfl
theorem z_lst : fLst rA δ QL = rA δ fun ds => szD ds.length (QL ds) := propext Iff.rfl
theorem z_sz {n : Nat} (h : n ≤ 1000) : szD n P = P := by unfold szD; rw [decide_eq_true h]
theorem z_f : dF rA δ Q = rA δ fun ds => Q (.lst ds) := propext Iff.rfl
theorem z_op : dOp o2 ra rb δ Q = ra δ fun x => rb δ fun y => o2 x y Q := propext Iff.rfl
theorem z_un : dUn o1 ra δ Q = ra δ fun x => o1 x Q := propext Iff.rfl
theorem z_tBl : tBl r δ QB = r δ fun x => blD x QB := propext Iff.rfl
theorem z_bl : blD (.bl p) QB = QB p := propext Iff.rfl
theorem z_tNt : tNt t δ QB = t δ fun b => notB b QB := propext Iff.rfl
theorem z_notT : notB true QB = QB false := propext Iff.rfl
theorem z_notF : notB false QB = QB true := propext Iff.rfl
theorem z_dNt : dNt ra δ Q = ra δ fun x => blD x fun c => notB c fun c => Q (.bl c) := propext Iff.rfl
theorem z_call : dCall S rA δ Q = rA δ fun ds => S ds Q := propext Iff.rfl
theorem z_next : dNext W δ = W.nx δ := propext Iff.rfl
theorem z_seqS : dSeq ts us W δ = ts { W with nx := us W } δ := propext Iff.rfl
theorem z_ret : dRet r W δ = r δ W.rt := propext Iff.rfl
theorem z_retN : dRetN W δ = W.rt .non := propext Iff.rfl
theorem z_drop : dDrop r W δ = r δ fun _ => W.nx δ := propext Iff.rfl
theorem z_brk : dBrk W δ = W.bk δ := propext Iff.rfl
theorem z_cnt : dCnt W δ = W.ct δ := propext Iff.rfl
theorem z_gN : gN i d δ QS = QS (δ.set i (some (.sh d))) := propext Iff.rfl
theorem z_gsNil : gsNil ds δ QS = nilL ds (QS δ) := propext Iff.rfl
theorem z_gsCons : gsCons g gs ds δ QS = headL ds fun d ds => g d δ fun δ' => gs ds δ' QS := by unfold gsCons headL; rfl
theorem z_headL {K : D → List D → Prop} : headL (d :: ds) K = K d ds := propext Iff.rfl
theorem z_nilL : nilL [] P = P := propext Iff.rfl
theorem z_gT : gT k gs d δ QS = tupD d k fun ds => gs ds δ QS := propext Iff.rfl
theorem z_gL : gL k gs d δ QS = lstD d k fun ds => gs ds δ QS := propext Iff.rfl
theorem z_tupD (h : ds.length = k) : tupD (.tup ds) k K = K ds := by unfold tupD; simp only [h, decide_true]
theorem z_lstD (h : ds.length = k) : lstD (.lst ds) k K = K ds := by unfold lstD; simp only [h, decide_true]
theorem z_asg : dAsg r g W δ = r δ fun d => g d δ W.nx := propext Iff.rfl
theorem z_set : dSet i r W δ = r δ fun d => W.nx (δ.set i (some (.sh d))) := propext Iff.rfl
theorem z_ownO0 {K : V → OD → Prop} {v : V} {x : OD} : ownO (some (.ow v x) :: δ)[0]? K = K v x := propext Iff.rfl
theorem z_ownOS {K : V → OD → Prop} {o : Option SD} : ownO (o :: δ)[i + 1]? K = ownO δ[i]? K := by rw [List.getElem?_cons_succ]
theorem z_slot0 : slotD (some (.sh d) :: δ)[0]? Q = Q d := propext Iff.rfl
theorem z_slotS {o : Option SD} : slotD (o :: δ)[i + 1]? Q = slotD δ[i]? Q := by rw [List.getElem?_cons_succ]
theorem z_frz : dFrz i ts W δ = ownO δ[i]? fun _ x => ts W (δ.set i (some (.sh x.toD))) := propext Iff.rfl
theorem z_aug : dAug o2 i r W δ = slotD δ[i]? fun d => r δ fun y => o2 d y fun z => W.nx (δ.set i (some (.sh z))) := propext Iff.rfl
theorem z_for : dFor rA g ts W δ = rA δ fun ds => forD g ts W ds δ := propext Iff.rfl
theorem z_lc {te : DE} {tt : DT} : fLc rA g tt te vs δ QL = rA δ fun ds => ds.length ≤ sizeLine ∧ lcD g tt te (wipeD δ vs) QL ds [] := propext Iff.rfl
theorem z_yes : dYes δ QB = QB true := propext Iff.rfl
theorem z_sl : dSl r rlo rhi δ Q = r δ fun x => rlo δ fun l => rhi δ fun h => oSl x l h Q := propext Iff.rfl
theorem z_noP : noP δ QO = QO none := propext Iff.rfl
theorem z_aP : aP r δ QO = r δ fun x => intO x QO := propext Iff.rfl
theorem z_intO : intO (.int a) QO = QO (some a) := propext Iff.rfl
theorem z_ifS : dIfS tc ts us W δ = tc δ fun b => iteS b ts us W δ := propext Iff.rfl
theorem iteS_t : iteS true ts us W δ = ts W δ := propext Iff.rfl
theorem iteS_f : iteS false ts us W δ = us W δ := propext Iff.rfl
theorem iteS_pos {c : Prop} [Decidable c] (h : c) : iteS (decide c) ts us W δ = ts W δ := by rw [decide_eq_true h]; rfl
theorem iteS_neg {c : Prop} [Decidable c] (h : ¬ c) : iteS (decide c) ts us W δ = us W δ := by rw [decide_eq_false h]; rfl
theorem z_ifE : dIfE tc ra rb δ Q = tc δ fun b => iteE b ra rb δ Q := propext Iff.rfl
theorem iteE_t : iteE true ra rb δ Q = ra δ Q := propext Iff.rfl
theorem iteE_f : iteE false ra rb δ Q = rb δ Q := propext Iff.rfl
theorem z_an : dAn ra rb δ Q = ra δ fun x => anE x rb δ Q := propext Iff.rfl
theorem z_or : dOr ra rb δ Q = ra δ fun x => orE x rb δ Q := propext Iff.rfl
theorem anE_t : anE (.bl true) r δ Q = r δ Q := propext Iff.rfl
theorem anE_f : anE (.bl false) r δ Q = Q (.bl false) := propext Iff.rfl
theorem orE_t : orE (.bl true) r δ Q = Q (.bl true) := propext Iff.rfl
theorem orE_f : orE (.bl false) r δ Q = r δ Q := propext Iff.rfl
theorem z_tan : tAn t u δ QB = t δ fun b => anT b u δ QB := propext Iff.rfl
theorem z_tor : tOrr t u δ QB = t δ fun b => orT b u δ QB := propext Iff.rfl
theorem anT_t : anT true u δ QB = u δ QB := propext Iff.rfl
theorem anT_f : anT false u δ QB = QB false := propext Iff.rfl
theorem orT_t : orT true u δ QB = QB true := propext Iff.rfl
theorem orT_f : orT false u δ QB = u δ QB := propext Iff.rfl
theorem z_seq : iSeq r δ QL = r δ fun d => seqD d QL := propext Iff.rfl
theorem z_seqL : seqD (.lst xs) QL = QL xs := propext Iff.rfl
theorem z_seqT : seqD (.tup xs) QL = QL xs := propext Iff.rfl
theorem z_seqSt : seqD (.str x) QL = QL (chars x) := propext Iff.rfl
theorem z_star : dStar r rA δ QL = r δ fun d => starD d fun xs => rA δ fun ys => QL (xs ++ ys) := propext Iff.rfl
theorem z_starT : starD (.tup xs) K = K xs := propext Iff.rfl
theorem z_starL : starD (.lst xs) K = K xs := propext Iff.rfl
theorem z_neg : oNeg (.int a) Q = Q (.int (-a)) := propext Iff.rfl
theorem z_sub : oSub (.int a) (.int b) Q = Q (.int (a - b)) := propext Iff.rfl
theorem z_mod : oMod (.int a) (.int b) Q = (0 < b ∧ Q (.int (a % b))) := propext Iff.rfl
theorem z_div : oDiv (.int a) (.int b) Q = (CDivW a b ∧ Q (.int (a / b))) := propext Iff.rfl
theorem z_lt : oLt (.int a) (.int b) Q = Q (.bl (decide (a < b))) := propext Iff.rfl
theorem z_le : oLe (.int a) (.int b) Q = Q (.bl (decide (a ≤ b))) := propext Iff.rfl
theorem z_gt : oGt (.int a) (.int b) Q = Q (.bl (decide (b < a))) := propext Iff.rfl
theorem z_ge : oGe (.int a) (.int b) Q = Q (.bl (decide (b ≤ a))) := propext Iff.rfl
theorem z_addI : oAdd (.int a) (.int b) Q = Q (.int (a + b)) := propext Iff.rfl
theorem z_addS : oAdd (.str x) (.str y) Q = (x.length + y.length ≤ sizeLine ∧ Q (.str (x ++ y))) := propext Iff.rfl
theorem z_addL : oAdd (.lst xs) (.lst ys) Q = (xs.length + ys.length ≤ sizeLine ∧ Q (.lst (xs ++ ys))) := propext Iff.rfl
theorem z_addT : oAdd (.tup xs) (.tup ys) Q = ((xs ≠ [] ∧ xs.length + ys.length ≤ sizeLine) ∧ Q (.tup (xs ++ ys))) := propext Iff.rfl
theorem z_iaddI : oIAdd (.int a) (.int b) Q = Q (.int (a + b)) := propext Iff.rfl
theorem z_iaddS : oIAdd (.str x) (.str y) Q = (x.length + y.length ≤ sizeLine ∧ Q (.str (x ++ y))) := propext Iff.rfl
theorem z_mulI : oMul (.int a) (.int b) Q = (MulOkD a b ∧ Q (.int (a * b))) := propext Iff.rfl
theorem z_mulS : oMul (.str x) (.int b) Q = ((0 ≤ b ∧ b ≤ 100000 ∧ x.length ≤ 100) ∧ Q (.str (repS x b.toNat))) := propext Iff.rfl
theorem z_mulL : oMul (.lst xs) (.int b) Q = ((-(2 ^ 63) ≤ b ∧ b < 2 ^ 63 ∧ xs.length * b.toNat ≤ sizeLine) ∧ Q (.lst (List.replicate b.toNat xs).flatten)) := propext Iff.rfl
theorem z_atD : atD (some d) Q = Q d := propext Iff.rfl
theorem z_atC {c : Nat} : atC (some c) Q = Q (.str ⟨#[c]⟩) := propext Iff.rfl
theorem z_ixL : oIx (.lst xs) (.int a) Q = atD (atI xs a) Q := propext Iff.rfl
theorem z_ixT : oIx (.tup xs) (.int a) Q = atD (atI xs a) Q := propext Iff.rfl
theorem z_ixS : oIx (.str x) (.int a) Q = (x.length ≤ sizeLine ∧ atC (atI x.cps.toList a) Q) := propext Iff.rfl
theorem z_ixL0 {e0 : D} : oIx (.lst (e0 :: xs)) (.int 0) Q = Q e0 := by
  show atD (atI _ 0) Q = _
  rw [atI0]
  rfl
theorem z_ixL1 {e0 e1 : D} : oIx (.lst (e0 :: e1 :: xs)) (.int 1) Q = Q e1 := by
  show atD (atI _ 1) Q = _
  rw [atI1]
  rfl
theorem z_ixL2 {e0 e1 e2 : D} : oIx (.lst (e0 :: e1 :: e2 :: xs)) (.int 2) Q = Q e2 := by
  show atD (atI _ 2) Q = _
  rw [atI2]
  rfl
theorem z_ixL3 {e0 e1 e2 e3 : D} : oIx (.lst (e0 :: e1 :: e2 :: e3 :: xs)) (.int 3) Q = Q e3 := by
  show atD (atI _ 3) Q = _
  rw [atI3]
  rfl
theorem z_ixL4 {e0 e1 e2 e3 e4 : D} : oIx (.lst (e0 :: e1 :: e2 :: e3 :: e4 :: xs)) (.int 4) Q = Q e4 := by
  show atD (atI _ 4) Q = _
  rw [atI4]
  rfl
theorem z_ixL5 {e0 e1 e2 e3 e4 e5 : D} : oIx (.lst (e0 :: e1 :: e2 :: e3 :: e4 :: e5 :: xs)) (.int 5) Q = Q e5 := by
  show atD (atI _ 5) Q = _
  rw [atI5]
  rfl
theorem z_ixL6 {e0 e1 e2 e3 e4 e5 e6 : D} : oIx (.lst (e0 :: e1 :: e2 :: e3 :: e4 :: e5 :: e6 :: xs)) (.int 6) Q = Q e6 := by
  show atD (atI _ 6) Q = _
  rw [atI6]
  rfl
theorem z_ixL7 {e0 e1 e2 e3 e4 e5 e6 e7 : D} : oIx (.lst (e0 :: e1 :: e2 :: e3 :: e4 :: e5 :: e6 :: e7 :: xs)) (.int 7) Q = Q e7 := by
  show atD (atI _ 7) Q = _
  rw [atI7]
  rfl
theorem z_ixT0 {e0 : D} : oIx (.tup (e0 :: xs)) (.int 0) Q = Q e0 := by
  show atD (atI _ 0) Q = _
  rw [atI0]
  rfl
theorem z_ixT1 {e0 e1 : D} : oIx (.tup (e0 :: e1 :: xs)) (.int 1) Q = Q e1 := by
  show atD (atI _ 1) Q = _
  rw [atI1]
  rfl
theorem z_ixT2 {e0 e1 e2 : D} : oIx (.tup (e0 :: e1 :: e2 :: xs)) (.int 2) Q = Q e2 := by
  show atD (atI _ 2) Q = _
  rw [atI2]
  rfl
theorem z_ixT3 {e0 e1 e2 e3 : D} : oIx (.tup (e0 :: e1 :: e2 :: e3 :: xs)) (.int 3) Q = Q e3 := by
  show atD (atI _ 3) Q = _
  rw [atI3]
  rfl
theorem z_ixT4 {e0 e1 e2 e3 e4 : D} : oIx (.tup (e0 :: e1 :: e2 :: e3 :: e4 :: xs)) (.int 4) Q = Q e4 := by
  show atD (atI _ 4) Q = _
  rw [atI4]
  rfl
theorem z_ixT5 {e0 e1 e2 e3 e4 e5 : D} : oIx (.tup (e0 :: e1 :: e2 :: e3 :: e4 :: e5 :: xs)) (.int 5) Q = Q e5 := by
  show atD (atI _ 5) Q = _
  rw [atI5]
  rfl
theorem z_ixT6 {e0 e1 e2 e3 e4 e5 e6 : D} : oIx (.tup (e0 :: e1 :: e2 :: e3 :: e4 :: e5 :: e6 :: xs)) (.int 6) Q = Q e6 := by
  show atD (atI _ 6) Q = _
  rw [atI6]
  rfl
theorem z_ixT7 {e0 e1 e2 e3 e4 e5 e6 e7 : D} : oIx (.tup (e0 :: e1 :: e2 :: e3 :: e4 :: e5 :: e6 :: e7 :: xs)) (.int 7) Q = Q e7 := by
  show atD (atI _ 7) Q = _
  rw [atI7]
  rfl
theorem z_eqS : oEq (.str x) (.str y) Q = Q (.bl (decide (x = y))) := propext Iff.rfl
theorem z_eqI : oEq (.int a) (.int b) Q = Q (.bl (decide (a = b))) := propext Iff.rfl
theorem z_eqB : oEq (.bl p) (.bl q) Q = Q (.bl (p == q)) := propext Iff.rfl
theorem z_eqL : oEq (.lst xs) (.lst ys) Q = ((plain (.lst xs) = true ∧ plain (.lst ys) = true) ∧ Q (.bl (eqb (.lst xs) (.lst ys)))) := propext Iff.rfl
theorem z_eqT : oEq (.tup xs) (.tup ys) Q = ((plain (.tup xs) = true ∧ plain (.tup ys) = true) ∧ Q (.bl (eqb (.tup xs) (.tup ys)))) := propext Iff.rfl
theorem z_neS : oNe (.str x) (.str y) Q = Q (.bl (!decide (x = y))) := propext Iff.rfl
theorem z_neI : oNe (.int a) (.int b) Q = Q (.bl (!decide (a = b))) := propext Iff.rfl
theorem z_neB : oNe (.bl p) (.bl q) Q = Q (.bl (!(p == q))) := propext Iff.rfl
theorem z_neL : oNe (.lst xs) (.lst ys) Q = ((plain (.lst xs) = true ∧ plain (.lst ys) = true) ∧ Q (.bl (!eqb (.lst xs) (.lst ys)))) := propext Iff.rfl
theorem z_neT : oNe (.tup xs) (.tup ys) Q = ((plain (.tup xs) = true ∧ plain (.tup ys) = true) ∧ Q (.bl (!eqb (.tup xs) (.tup ys)))) := propext Iff.rfl
theorem z_inL : oIn false d (.lst ys) Q = ((isFlat d = true ∧ ys.all isFlat = true) ∧ Q (.bl (inD d ys))) := propext Iff.rfl
theorem z_inT : oIn false d (.tup ys) Q = ((isFlat d = true ∧ ys.all isFlat = true) ∧ Q (.bl (inD d ys))) := propext Iff.rfl
theorem z_ninL : oIn true d (.lst ys) Q = ((isFlat d = true ∧ ys.all isFlat = true) ∧ Q (.bl (!inD d ys))) := propext Iff.rfl
theorem z_ninT : oIn true d (.tup ys) Q = ((isFlat d = true ∧ ys.all isFlat = true) ∧ Q (.bl (!inD d ys))) := propext Iff.rfl
theorem z_inK : oIn false d (.ktup ys) Q = ((isFlat d = true ∧ ys.all isFlat = true) ∧ Q (.bl (inD d ys))) := propext Iff.rfl
theorem z_ninK : oIn true d (.ktup ys) Q = ((isFlat d = true ∧ ys.all isFlat = true) ∧ Q (.bl (!inD d ys))) := propext Iff.rfl
theorem z_slL : oSl (.lst xs) lo hi Q = Q (.lst (cut xs lo hi)) := propext Iff.rfl
theorem z_slT : oSl (.tup xs) lo hi Q = Q (.tup (cut xs lo hi)) := propext Iff.rfl
theorem z_slS : oSl (.str x) lo hi Q = (x.length ≤ sizeLine ∧ Q (.str ⟨(cut x.cps.toList lo hi).toArray⟩)) := propext Iff.rfl
theorem z_lenL : cLen [.lst xs] Q = Q (.int xs.length) := propext Iff.rfl
theorem z_lenT : cLen [.tup xs] Q = Q (.int xs.length) := propext Iff.rfl
theorem z_lenS : cLen [.str x] Q = (x.length ≤ sizeLine ∧ Q (.int x.length)) := propext Iff.rfl
theorem z_intI : cInt [.int a] Q = Q (.int a) := propext Iff.rfl
theorem z_intB : cInt [.bl p] Q = Q (.int (if p then 1 else 0)) := propext Iff.rfl
theorem z_abs : cAbs [.int a] Q = Q (.int (if a < 0 then -a else a)) := propext Iff.rfl
theorem z_max : cMax [.int a, .int b] Q = Q (.int (if b > a then b else a)) := propext Iff.rfl
theorem z_tupL : cTuple [.lst xs] Q = Q (.tup xs) := propext Iff.rfl
theorem z_tupT : cTuple [.tup xs] Q = Q (.tup xs) := propext Iff.rfl
theorem z_par {i j : Nat} {r1 r2 : DE} : dPar i j (dCons r1 (dCons r2 dNil)) W δ = r1 δ fun x => r2 δ fun y => W.nx ((δ.set i (some (.sh x))).set j (some (.sh y))) := propext Iff.rfl
end
def r1D (ds : List D) (QL : List D → Prop) : Prop := match ds with
  | [.int n] => (-(2 ^ 62) ≤ n ∧ n < 2 ^ 62) ∧ QL (ups 0 n.toNat)
  | _ => False
def r2D (ds : List D) (QL : List D → Prop) : Prop := match ds with
  | [.int i, .int j] => (-(2 ^ 62) ≤ i ∧ i < 2 ^ 62 ∧ -(2 ^ 62) ≤ j ∧ j < 2 ^ 62) ∧ QL (ups i (j - i).toNat)
  | _ => False
def fldD (C i : Nat) (d : D) (Q : D → Prop) : Prop := match d with
  | .obj C' fs => C' = C ∧ atD fs[i]? Q
  | _ => False
def isiD (T : String) (d : D) (Q : D → Prop) : Prop := match pureD d with
  | true => Q (.bl (isi T d))
  | false => False
def dgD (d y : D) (Q : D → Prop) : Prop := match d with
  | .dic ks => isKey y = true ∧ atD (lookD ks y) Q
  | _ => False
def dicD (ks : List Str) (ds : List D) (Q : D → Prop) : Prop := match decide (ds.length = ks.length) with
  | true => Q (.dic (zipS ks ds))
  | false => False
def mtD (T : String) (m : OM) (x : D) (rA : DA) (δ : DS) (Q : D → Prop) : Prop := match isT T x with
  | true => rA δ fun ds => m x ds Q
  | false => False
section
variable {δ : DS} {Q : D → Prop} {QL : List D → Prop} {r ra rb : DE} {rA : DA} {a b : Int} {x : Str} {xs ds : List D} {d : D} {C C' i : Nat} {S : FD} {SI : FI} {ks : List Str} {kv : List (D × D)} {T : String} {m : OM} {p : Bool}
theorem z_r1 : iR1 rA δ QL = rA δ fun ds => r1D ds QL := propext Iff.rfl
theorem z_r1D : r1D [.int a] QL = ((-(2 ^ 62) ≤ a ∧ a < 2 ^ 62) ∧ QL (ups 0 a.toNat)) := propext Iff.rfl
theorem z_r2 : iR2 rA δ QL = rA δ fun ds => r2D ds QL := propext Iff.rfl
theorem z_r2D : r2D [.int a, .int b] QL = ((-(2 ^ 62) ≤ a ∧ a < 2 ^ 62 ∧ -(2 ^ 62) ≤ b ∧ b < 2 ^ 62) ∧ QL (ups a (b - a).toNat)) := propext Iff.rfl
theorem z_fld : dFld C i r δ Q = r δ fun d => fldD C i d Q := propext Iff.rfl
theorem z_fldD : fldD C i (.obj C xs) Q = atD xs[i]? Q := by
  show (C = C ∧ _) = _
  simp
theorem z_prop : dProp C S r δ Q = r δ fun d => isO C d ∧ S [d] Q := propext Iff.rfl
theorem z_isO : isO C (.obj C xs) = True := by
  show (C = C) = True
  simp
theorem z_meth : dMeth C S r rA δ Q = r δ fun d => isO C d ∧ rA δ fun ds => S (d :: ds) Q := propext Iff.rfl
theorem z_callO : dCallO C S r rA δ Q = r δ fun d => isO C d ∧ rA δ fun ds => S (d :: ds) Q := propext Iff.rfl
theorem z_make : dMake C SI rA δ Q = rA δ fun ds => SI ds fun fs => Q (.obj C fs) := propext Iff.rfl
theorem z_own2 {x y : D} : oOwn C S x y Q = (isO C x ∧ isO C y ∧ S [x, y] Q) := propext Iff.rfl
theorem z_own1 {x : D} : oOwn1 C S x Q = (isO C x ∧ S [x] Q) := propext Iff.rfl
theorem z_ownNe {x y : D} : oOwnNe C S x y Q = (isO C x ∧ isO C y ∧ S [x, y] fun z => blD z fun b => Q (.bl (!b))) := propext Iff.rfl
theorem z_isi : dIsi T r δ Q = r δ fun d => isiD T d Q := propext Iff.rfl
theorem z_isiN : isiD T .non Q = Q (.bl (isi T .non)) := propext Iff.rfl
theorem z_isiB : isiD T (.bl p) Q = Q (.bl (isi T (.bl p))) := propext Iff.rfl
theorem z_isiI : isiD T (.int a) Q = Q (.bl (isi T (.int a))) := propext Iff.rfl
theorem z_isiS : isiD T (.str x) Q = Q (.bl (isi T (.str x))) := propext Iff.rfl
theorem z_isiL : isiD T (.lst xs) Q = Q (.bl (isi T (.lst xs))) := propext Iff.rfl
theorem z_isiT : isiD T (.tup xs) Q = Q (.bl (isi T (.tup xs))) := propext Iff.rfl
theorem z_isiD : isiD T (.dic kv) Q = Q (.bl (isi T (.dic kv))) := propext Iff.rfl
theorem z_dget : dDGet ra rb δ Q = ra δ fun d => rb δ fun y => dgD d y Q := propext Iff.rfl
theorem z_dgS : dgD (.dic kv) (.str x) Q = atD (lookD kv (.str x)) Q := by
  show (isKey (.str x) = true ∧ _) = _
  simp [isKey]
theorem z_dgI : dgD (.dic kv) (.int a) Q = atD (lookD kv (.int a)) Q := by
  show (isKey (.int a) = true ∧ _) = _
  simp [isKey]
theorem z_dic : dDic ks rA δ Q = rA δ fun ds => dicD ks ds Q := propext Iff.rfl
theorem z_dicD (h : ds.length = ks.length) : dicD ks ds Q = Q (.dic (zipS ks ds)) := by unfold dicD; simp only [h, decide_true]
theorem z_mt : dMt T m r rA δ Q = r δ fun x => mtD T m x rA δ Q := propext Iff.rfl
theorem z_mtS : mtD "str" m (.str x) rA δ Q = rA δ fun ds => m (.str x) ds Q := propext Iff.rfl
theorem z_mtL : mtD "list" m (.lst xs) rA δ Q = rA δ fun ds => m (.lst xs) ds Q := propext Iff.rfl
end
end DL
namespace DL
open PySem PySem.Spec PyProof.Rows L2 Evl
def KdAll (K : PySem.W.Frag) (a : Addr) : List (Str × Str) → Prop
  | [] => True
  | (x, v) :: r => (∃ t, PySem.W.nsIn K a x = some (some (.str v t))) ∧ KdAll K a r
structure KDs (K : PySem.W.Frag) (w : World) (a : Addr) (tbl : List (Str × Str)) : Prop where
  ex : ∃ es n, K.lookup a = some ⟨.type "dict", none, .dict es n, #[]⟩ ∧ PySem.W.KeysLit w.params es.toList
  all : KdAll K a tbl
def kget (tbl : List (Str × Str)) (x : Str) : Option Str := (tbl.find? fun z => decide (z.1 = x)).map (·.2)
theorem kget_at {K : PySem.W.Frag} {a : Addr} {x v : Str} : ∀ {tbl : List (Str × Str)}, KdAll K a tbl → kget tbl x = some v → ∃ t, PySem.W.nsIn K a x = some (some (.str v t))
  | [], _, h => by cases h
  | (y, u) :: r, h1, h => by
    unfold kget at h
    rw [List.find?_cons] at h
    by_cases e : y = x
    · subst e
      simp only [decide_true, Option.map_some, Option.some.injEq] at h
      subst h
      exact h1.1
    · rw [decide_eq_false e] at h
      exact kget_at h1.2 h
theorem KDs.at {K : PySem.W.Frag} {w : World} {a : Addr} {tbl : List (Str × Str)} {x v : Str} (h : KDs K w a tbl) (e : kget tbl x = some v) : KDct K w a x (.str v) := by
  obtain ⟨es, n, h1, h2⟩ := h.ex
  obtain ⟨t, h3⟩ := kget_at h.all e
  exact ⟨es, n, .str v t, h1, h2, h3, t, rfl⟩
end DL
namespace DL
open PySem PySem.Spec PyProof.Rows L2 Evl
section
variable {X : Cx} {B : Bx} {e : Expr} {r : DE} {pos : Pos}
def enumD (xs : List D) : List D := xs.zipIdx.map fun z => .tup [.int (z.2 : Nat), z.1]
theorem enum_len (xs : List D) : (enumD xs).length = xs.length := by simp [enumD]
theorem enum_at {xs : List D} {i : Nat} {d : D} (h : (enumD xs)[i]? = some d) : ∃ x, xs[i]? = some x ∧ d = .tup [.int (i : Nat), x] := by
  unfold enumD at h
  rw [List.getElem?_map, List.getElem?_zipIdx] at h
  cases hx : xs[i]? with
  | none => rw [hx] at h; cases h
  | some x =>
    rw [hx] at h
    simp only [Option.map_some, Option.some.injEq, Nat.zero_add] at h
    exact ⟨x, rfl, h.symm⟩
def enD (d : D) (Q : List D → Prop) : Prop := match d with
  | .lst xs => Q (enumD xs)
  | _ => False
def iEn (ra : DA) : DA := fun δ Q => ra δ fun ds => match ds with
  | [d] => enD d Q
  | _ => False
theorem itd_enum {K : PySem.W.Frag} {G : Hp} {a : Addr} {xs : List V} {ds : List D} (h : G a = some (.lst xs)) (hd : Dats K B G xs ds) : ItD K B (Ite K a) G (enumD ds) where
  go := fun i G1 H e j hi => by
    rw [enum_len] at hi
    exact ⟨xs, xs[i]'(by rw [hd.len]; exact hi), sq_of (j.ex _ _ (e _ _ h)), by simp⟩
  yld := fun i G1 H x H' d e j y hi => by
    obtain ⟨T, u, rfl, hT, rfl, y⟩ := y
    obtain ⟨z, hz, rfl⟩ := enum_at hi
    have q := y xs (sq_of (j.ex _ _ (e _ _ h)))
    obtain ⟨w, h1, h2⟩ := hd.get hz
    rw [q] at h1
    cases h1
    have g := Gr.new (o := .tup [.int (i : Nat), u]) j hT
    exact ⟨_, g, .tup upd_same (.cons (.int _) (.cons (h2.mono (e.trans g.ex)) .nil))⟩
  stop := fun i G1 H e j hi => by
    rw [enum_len] at hi
    exact ⟨xs, sq_of (j.ex _ _ (e _ _ h)), by rw [hd.len]; exact hi⟩
theorem pid_enum {elts : List Expr} {kk : Nat} {ra : DA} {p tpos : Pos} (hg : Gl X "enumerate") (hm : X.mg "enumerate" = none) (ha : PAD X B [e] ra) (hs : starEach [e] X.env = [(false, eval e X.env)] := by rfl) :
    PID X B (.Tuple elts kk tpos) (.Call (.Name "enumerate" p) [e] [] pos) (iEn ra) :=
  ⟨fun pins s σ H R I h => (pi_enum (elts := elts) (kk := kk) (tpos := tpos) hg hm ha hs).run pins s σ H R I (by
    obtain ⟨H0, G, δ, Q, j, st, hr, k⟩ := h
    refine ⟨H0, G, δ, _, j, st, hr, fun ds vs G2 H2 q2 g2 h2 => ?_⟩
    cases h2 with
    | nil => exact q2.elim
    | cons h3 h4 =>
      cases h4 with
      | cons _ _ => exact q2.elim
      | nil =>
        cases h3 with
        | lst h5 h6 => exact ⟨_, _, rfl, sq_of (g2.j.ex _ _ h5), k _ _ G2 H2 q2 g2 (itd_enum h5 h6)⟩
        | _ => exact q2.elim)⟩
def enLD (ds : List D) (Q : List D → Prop) : Prop := match ds with
  | [d] => enD d Q
  | _ => False
theorem z_en {ra : DA} {δ : DS} {Q : List D → Prop} : iEn ra δ Q = ra δ fun ds => enLD ds Q := propext Iff.rfl
theorem z_enL {d : D} {Q : List D → Prop} : enLD [d] Q = enD d Q := propext Iff.rfl
theorem z_enD {xs : List D} {Q : List D → Prop} : enD (.lst xs) Q = Q (enumD xs) := propext Iff.rfl
end
end DL
namespace DL
open PySem PySem.Spec PyProof.Rows L2 Evl
abbrev OE := DS → (OD → Prop) → Prop
abbrev OA := DS → (List OD → Prop) → Prop
abbrev FO := List D → (OD → Prop) → Prop
def Fresh (B : Bx) (H : Hp) (f : List Addr) : Prop := f.Nodup ∧ ∀ p ∈ f, H p = none ∧ B.nb p
def liftW (K : PySem.W.Frag) (B : Bx) (r : OE) : TE := fun σ H P => ∃ (H0 G : Hp) (δ : DS) (Q : OD → Prop), Jn K B G H ∧ StOk K B H0 G H σ δ ∧ r δ Q ∧ ∀ o v f G2 H2, Q o → Gr K B G H G2 H2 → Own K B G2 H2 v o f → Fresh B H f → P v H2
def liftWA (K : PySem.W.Frag) (B : Bx) (r : OA) : TA := fun σ H P => ∃ (H0 G : Hp) (δ : DS) (Q : List OD → Prop), Jn K B G H ∧ StOk K B H0 G H σ δ ∧ r δ Q ∧ ∀ os vs f G2 H2, Q os → Gr K B G H G2 H2 → Owns K B G2 H2 vs os f → Fresh B H f → P vs H2
abbrev PO (X : Cx) (B : Bx) (e : Expr) (r : OE) : Prop := PE X e (liftW X.K B r)
abbrev PAO (X : Cx) (B : Bx) (es : List Expr) (r : OA) : Prop := PA X es (liftWA X.K B r)
section
variable {K : PySem.W.Frag} {B : Bx} {G H G2 H2 : Hp}
theorem Gr.kept (g : Gr K B G H G2 H2) {f : List Addr} (h : ∀ p ∈ f, Mu H p ∧ B.nb p) : Kept G H G2 H2 f := fun p hp => by
  refine ⟨?_, g.old p (h p hp).1⟩
  cases q : H p with
  | none => exact absurd q (h p hp).1.ne
  | some o => exact g.keep p o (h p hp).2 q
theorem Own.gr {v : V} {o : OD} {f : List Addr} (h : Own K B G H v o f) (g : Gr K B G H G2 H2) (hf : ∀ p ∈ f, B.nb p) : Own K B G2 H2 v o f := h.keep g.ex (g.kept fun p hp => ⟨(h.node p hp).at, hf p hp⟩)
theorem Owns.gr {v : List V} {o : List OD} {f : List Addr} (h : Owns K B G H v o f) (g : Gr K B G H G2 H2) (hf : ∀ p ∈ f, B.nb p) : Owns K B G2 H2 v o f := h.keep g.ex (g.kept fun p hp => ⟨(h.node p hp).at, hf p hp⟩)
theorem Fresh.nil : Fresh B H [] := ⟨List.nodup_nil, fun p hp => nomatch hp⟩
theorem Fresh.back {G0 H0 : Hp} {f : List Addr} (h : Fresh B H f) (g : Gr K B G0 H0 G H) : Fresh B H0 f := ⟨h.1, fun p hp => ⟨g.free (h.2 p hp).1, (h.2 p hp).2⟩⟩
/-- first ones, then others -/
theorem Fresh.app {v : V} {o : OD} {f f2 : List Addr} (h : Fresh B H f) (ow : Own K B G2 H2 v o f) (g : Gr K B G H G2 H2) (h2 : Fresh B H2 f2) : Fresh B H (f ++ f2) := by
  refine ⟨List.nodup_append.mpr ⟨h.1, h2.1, fun a ha b hb e => ?_⟩, fun p hp => (List.mem_append.mp hp).elim (h.2 p) fun z => ⟨g.free (h2.2 p z).1, (h2.2 p z).2⟩⟩
  subst e
  exact (ow.node a ha).at.ne (h2.2 a hb).1
end
section
variable {X : Cx} {B : Bx} {e : Expr} {es : List Expr} {r : DE} {ra : DA} {ro : OE} {rao : OA} {pos : Pos}
def oD (r : DE) : OE := fun δ Q => r δ fun d => Q (.sh d)
def oF (ra : DA) : OE := fun δ Q => ra δ fun ds => Q (.lst (ds.map .sh))
theorem po_d (h : PD X B e r) : PO X B e (oD r) := pe_mono h fun σ H P q => by
  obtain ⟨H0, G, δ, Q, j, st, hr, k⟩ := q
  exact ⟨H0, G, δ, _, j, st, hr, fun d v G2 H2 q2 g2 h2 => k _ v [] G2 H2 q2 g2 (.sh h2) Fresh.nil⟩
theorem po_f (h : PF X B e ra) : PO X B e (oF ra) := pe_mono h fun σ H P q => by
  obtain ⟨H0, G, δ, Q, j, st, hr, k⟩ := q
  refine ⟨H0, G, δ, _, j, st, hr, fun ds p vs G2 H2 q2 g2 hp gp h2 hd => k _ _ [p] G2 H2 q2 g2 (.lst h2 gp (Owns.of hd)) ⟨List.nodup_cons.mpr ⟨List.not_mem_nil, List.nodup_nil⟩, fun q hq => ?_⟩⟩
  cases List.mem_singleton.mp hq
  exact ⟨hp, Gr.neB j hp⟩
def oNil : OA := fun _ Q => Q []
def oCons (r : OE) (ra : OA) : OA := fun δ Q => r δ fun x => ra δ fun xs => Q (x :: xs)
theorem pao_nil : PAO X B [] oNil := pa_mono pa_nil fun σ H P q => by
  obtain ⟨H0, G, δ, Q, j, st, hr, k⟩ := q
  exact k [] [] [] G H hr (Gr.refl j) .nil Fresh.nil
theorem pao_cons (h : PO X B e ro) (ha : PAO X B es rao) (hs : starEach (e :: es) X.env = (false, eval e X.env) :: starEach es X.env := by rfl) : PAO X B (e :: es) (oCons ro rao) := pa_mono (pa_cons h ha hs) fun σ H P q => by
  obtain ⟨H0, G, δ, Q, j, st, hr, k⟩ := q
  refine ⟨H0, G, δ, _, j, st, hr, fun o v f G2 H2 q2 g2 h2 f2 => ?_⟩
  refine ⟨H0, G2, δ, _, g2.j, st.gr g2, q2, fun os vs f3 G3 H3 q3 g3 h3 f4 => ?_⟩
  exact k _ _ _ G3 H3 q3 (g2.trans g3) (.cons (h2.gr g3 fun p hp => (f2.2 p hp).2) h3) (f2.app h2 g2 f4)
/-- {} -/
def oDic0 (t : Bool) : OE := fun _ Q => Q (.dic t [])
theorem po_dicK : PO X B (.Dict [] [] pos) (oDic0 false) := pe_mono pe_dnewK fun σ H P q p hp => by
  obtain ⟨H0, G, δ, Q, j, st, hr, k⟩ := q
  refine k _ _ [p] G _ hr (Gr.new0 j hp) (.dK upd_same (fresh_back j.ex hp) .nil) ⟨List.nodup_cons.mpr ⟨List.not_mem_nil, List.nodup_nil⟩, fun q hq => ?_⟩
  cases List.mem_singleton.mp hq
  exact ⟨hp, Gr.neB j hp⟩
theorem po_dicT : PO X B (.Dict [] [] pos) (oDic0 true) := pe_mono pe_dnewT fun σ H P q p hp => by
  obtain ⟨H0, G, δ, Q, j, st, hr, k⟩ := q
  refine k _ _ [p] G _ hr (Gr.new0 j hp) (.dT upd_same (fresh_back j.ex hp) .nil) ⟨List.nodup_cons.mpr ⟨List.not_mem_nil, List.nodup_nil⟩, fun q hq => ?_⟩
  cases List.mem_singleton.mp hq
  exact ⟨hp, Gr.neB j hp⟩
/-- it becomes data -/
def dFz (ro : OE) : DE := fun δ Q => ro δ fun o => Q o.toD
theorem pd_fz (h : PO X B e ro) : PD X B e (dFz ro) := ⟨fun pins s σ H P I q => by
  obtain ⟨H0, G, δ, Q, j, st, hr, k⟩ := q
  refine thn (h.run pins s σ H (fun v H1 => ∃ o f G2, Q o.toD ∧ Gr X.K B G H G2 H1 ∧ Own X.K B G2 H1 v o f ∧ Fresh B H f) I ⟨H0, G, δ, _, j, st, hr, fun o v f G2 H2 q2 g2 h2 f2 => ⟨o, f, G2, q2, g2, h2, f2⟩⟩) fun u s1 ⟨v, H1, I1, r1, o, f, G2, q2, g2, h2, f2⟩ => ?_
  obtain ⟨L, I2, l⟩ := lock_all f I1 f2.1
  have hf : ∀ p ∈ f, H p = none ∧ B.nb p ∧ G2 p = none := fun p hp => ⟨(f2.2 p hp).1, (f2.2 p hp).2, (h2.node p hp).1⟩
  exact ⟨v, L, I2, r1, k _ v _ L q2 ((g2.lock l hf).frzs hf) (h2.dat (fun p hp => (hf p hp).2.2) l fun p hp => hp)⟩⟩
/-- x = e -/
def dSetT (i : Nat) (ro : OE) : DTS := fun W δ => ro δ fun o => ∀ v, W.nx (δ.set i (some (.ow v o)))
theorem psd_setT {i : Nat} {x : Str} {pos' : Pos} (hN : X.N.Nodup) (hi : X.N[i]? = some x) (hx : Loc X.env.scope x) (he : PO X B e ro) (hs : swapsWith e (some (.Name x pos')) pos.line X.env = pure false := by rfl) (hf : X.fn x = true ∨ X.env.scope.names.lookup x = some .local := by first | exact .inl rfl | exact .inr rfl | assumption) :
    PSD X B (.Assign [.Name x pos'] e pos) (dSetT i ro) := ps_mono (ps_set hN hi hx he hs hf) fun E σ H q => by
  obtain ⟨G0, H0, G, δ, W, g0, s, h, k⟩ := q
  refine ⟨H0, G, δ, _, g0.j, s, h, fun o v f G2 H2 q2 g2 h2 f2 => ?_⟩
  exact k.nx _ _ _ _ (q2 v) (g0.trans g2) g2.ex (s.setO g2 h2 f2.1 fun p hp => ⟨(f2.2 p hp).1, g0.free (f2.2 p hp).1, (f2.2 p hp).2⟩)
/-- return e, and return x, of what is one's own -/
def dRetE (ro : OE) : DTS := fun W δ => ro δ W.ro
theorem psd_retE (h : PO X B e ro) : PSD X B (.Return (some e) pos) (dRetE ro) := ps_mono (ps_ret h) fun E σ H q => by
  obtain ⟨G0, H0, G, δ, W, g0, s, h, k⟩ := q
  refine ⟨H0, G, δ, _, g0.j, s, h, fun o v f G2 H2 q2 g2 h2 f2 => ?_⟩
  exact k.ro _ _ _ _ _ q2 (g0.trans g2) g2.ex h2 f2.1 (f2.back g0).2
def dRetO (i : Nat) : DTS := fun W δ => ownO δ[i]? fun _ o => W.ro o
theorem psd_retO {i : Nat} (h : PE X e (tVar i)) : PSD X B (.Return (some e) pos) (dRetO i) := ps_mono (ps_ret h) fun E σ H q => by
  obtain ⟨G0, H0, G, δ, W, g0, s, h, k⟩ := q
  have h : ownO δ[i]? (fun _ o => W.ro o) := h
  unfold ownO at h
  split at h
  · rename_i v o h1
    obtain ⟨F, y⟩ := s.ex
    obtain ⟨e1, e2, e3, e4⟩ := y.ow h1
    exact ⟨v, e1, k.ro _ _ _ _ _ h g0 (Ex.refl _) e2 e3 e4⟩
  · exact h.elim
end
def spO (K : PySem.W.Frag) (B : Bx) (S : FO) : Sp := fun vs H P _ => ∃ (G : Hp) (ds : List D) (Q : OD → Prop), Jn K B G H ∧ Dats K B G vs ds ∧ S ds Q ∧ ∀ o v f G2 H2, Q o → Gr K B G H G2 H2 → Own K B G2 H2 v o f → Fresh B H f → P v H2
section
variable {P : Program} {w : World} {K : PySem.W.Frag} {mg : Str → Option Value} {base : Heap}
theorem fn_o {x qual : Str} {st : Stmt} {f : Addr} {fd : FuncData} {N ps : List Str} {k : Nat} {B : Bx} {S : FO} {t : DTS} (F : Fun K x qual st f fd) (Sc : FnScope N ps (defScope st)) (len : ∀ ds Q, S ds Q → ds.length = ps.length)
    (hbody : ∀ (cdv : Value) (A : Around) (outer : List Env) (s : Shared) (H : Hp) (E : XK), Room k (A.deeper (envOfC qual (defScope st) s.heap.objs.size f cdv)) → PSsD (cxOf CX0 P w K mg base N qual (defScope st) f cdv A outer s H E).nox B (defBody st) t)
    (vc : ∀ ds Q, S ds Q → t { nx := fun _ => Q (.sh .non), rt := fun d => Q (.sh d), ro := Q } (startD N.length ds)) : FnOk P w K mg base CX0 (k + 1) f fd ps (spO K B S) := by
  refine F.ok Sc (fun vs H Q E h => ?_) (fun cdv A outer s H vs Q E hr h => ⟨_, hbody cdv A outer s H E hr, ?_⟩)
  · obtain ⟨G, ds, R, j, hd, hs, _⟩ := h
    rw [hd.len]
    exact len ds R hs
  · obtain ⟨G, ds, R, j, hd, hs, kk⟩ := h
    refine ⟨G, H, G, startD N.length ds, _, Gr.refl j, start_ok hd, vc ds R hs, ⟨?_, ?_, ?_, ?_, ?_, ?_, ?_⟩⟩
    · exact fun σ δ G2 H2 q g _ s2 => kk _ .non [] G2 H2 q g (.sh .non) Fresh.nil
    · exact fun σ δ G2 H2 q g _ s2 => q.elim
    · exact fun σ δ G2 H2 q g _ s2 => q.elim
    · exact fun d v G2 H2 q g _ hd => kk _ v [] G2 H2 q g (.sh hd) Fresh.nil
    · exact fun o v f G2 H2 q g _ h2 n2 m2 => kk o v f G2 H2 q g h2 ⟨n2, m2⟩
    · exact fun σ' δ'' d v G2 H2 q => q.elim
    · exact fun q' vs' os f G2 H2 q => q.elim
end
def oCall (S : FO) (ra : DA) : OE := fun δ Q => ra δ fun ds => S ds Q
theorem liftCO {K : PySem.W.Frag} {B : Bx} {S : FO} {ra : DA} {σ : L2.St} {H : Hp} {P : VK} (q : liftW K B (oCall S ra) σ H P) : liftA K B ra σ H fun vs H1 => spO K B S vs H1 P E0 := by
  obtain ⟨H0, G, δ, Q, j, st, hr, k⟩ := q
  refine ⟨H0, G, δ, _, j, st, hr, fun ds vs G2 H2 q2 g2 h2 => ?_⟩
  exact ⟨G2, ds, Q, g2.j, h2, q2, fun o v f G3 H3 q3 g3 h3 f3 => k o v f G3 H3 q3 (g2.trans g3) h3 (f3.back g2)⟩
section
variable {X : Cx} {B : Bx} {e o : Expr} {es : List Expr} {r : DE} {pos : Pos} {C k k' i : Nat} {S : FO} {ra : DA} {m : Str} {g : Addr}
theorem po_callD {x : Str} {st : Stmt} {ps : List Str} {fp : Pos} (T : DefAt X.K X.mg x st ps) (F : FnOk X.prog X.w X.K X.mg X.base CX0 k T.f T.fd ps (spO X.K B S)) (hr : Room k' X.A) (hk : k ≤ k') (hg : Gl X x) (ha : PAD X B (e :: es) ra) (hd : (x == ("__debug__" : Str)) = false := by decide) (he : starEach (e :: es) X.env = (false, eval e X.env) :: starEach es X.env := by rfl) (hpl : (backTo pos (starEach es X.env)).any (·.1) = false := by rfl) :
    PO X B (.Call (.Name x fp) (e :: es) [] pos) (oCall S ra) :=
  pe_mono (pe_call (E := E0) F (hr.mono hk) hg T.at_ T.fn.kp T.bd .nil pass0 ha hd he hpl) fun σ H P q => by
    obtain ⟨H0, G, δ, Q, j, st, h1, k⟩ := liftCO q
    exact ⟨H0, G, δ, Q, j, st, h1, fun ds vs G2 H2 q2 g2 h2 => by
      show spO X.K B S (vs ++ []) H2 P E0
      rw [List.append_nil]
      exact k ds vs G2 H2 q2 g2 h2⟩
end
end DL
namespace DL
open PySem PySem.Spec PyProof.Rows L2 Evl
section
variable {X : Cx} {B : Bx} {e : Expr} {r : DE} {t : DT} {pos : Pos}
theorem unlock_all {pins : List (Addr × Obj)} {σ : L2.St} {s : Shared} {H L : Hp} : ∀ (f : List Addr) {H2 : Hp}, Inv X pins σ H2 s → f.Nodup → (∀ p ∈ f, (∃ u, H p = some u ∧ L p = some u ∧ ¬ Lrn p u ∧ noTb u = true) ∨ ∃ u od, H p = some u ∧ L p = some (.frz od u) ∧ Mut (some u)) → (∀ p ∈ f, H2 p = L p) → (∀ p ∈ f, ∀ u, H p = some u → Mut (some u) → ∀ o' u', X.H_0 p ≠ some (.frz o' u')) →
    ∃ U, Inv X pins σ U s ∧ (∀ p ∈ f, U p = H p) ∧ ∀ p, p ∉ f → U p = H2 p
  | [], H2, I, _, _, _, _ => ⟨H2, I, fun _ z => (nomatch z), fun _ _ => rfl⟩
  | p :: f, H2, I, nd, hk, h2, nf => by
    have hp : p ∉ f := (List.nodup_cons.mp nd).1
    obtain ⟨U, I1, u1, u2⟩ := unlock_all f I (List.nodup_cons.mp nd).2 (fun q hq => hk q (List.mem_cons_of_mem _ hq)) (fun q hq => h2 q (List.mem_cons_of_mem _ hq)) fun q hq => nf q (List.mem_cons_of_mem _ hq)
    have e1 : U p = L p := (u2 p hp).trans (h2 p List.mem_cons_self)
    rcases hk p List.mem_cons_self with ⟨vs, a, b, _⟩ | ⟨u, od, a, b, m⟩
    · refine ⟨U, I1, fun q hq => ?_, fun q hq => u2 q fun z => hq (List.mem_cons_of_mem _ z)⟩
      rcases List.mem_cons.mp hq with rfl | hq
      · rw [e1, b, a]
      · exact u1 q hq
    · refine ⟨_, I1.unlock (e1.trans b) (nf p List.mem_cons_self u a m), fun q hq => ?_, fun q hq => ?_⟩
      · by_cases e : q = p
        · subst e
          rw [upd_same, a]
        · rw [upd_ne e]
          exact u1 q ((List.mem_cons.mp hq).resolve_left e)
      · rw [upd_ne fun e => hq (by rw [e]; exact List.mem_cons_self)]
        exact u2 q fun z => hq (List.mem_cons_of_mem _ z)
theorem lkd_kinds {G H L : Hp} {f : List Addr} (l : Lkd H L f) (h : ∀ p ∈ f, Node G H p) : ∀ p ∈ f, (∃ u, H p = some u ∧ L p = some u ∧ ¬ Lrn p u ∧ noTb u = true) ∨ ∃ u od, H p = some u ∧ L p = some (.frz od u) ∧ Mut (some u) := fun p hp => by
  rcases (h p hp).2 with ⟨vs, a⟩ | ⟨vs, a⟩ | ⟨vs, a⟩ | ⟨C, dx, vs, a⟩ | a
  · exact .inl ⟨_, a, l.lst p vs a, nl rfl, rfl⟩
  · obtain ⟨od, b⟩ := l.dK p vs hp a
    exact .inr ⟨_, od, a, b, trivial⟩
  · obtain ⟨od, b⟩ := l.dT p vs hp a
    exact .inr ⟨_, od, a, b, trivial⟩
  · obtain ⟨o, e, n⟩ := slO_mu a
    rw [a] at e
    cases e
    exact .inl ⟨_, a, l.oth p _ a (fun _ => slO_dK) fun _ => slO_dT, n, rfl⟩
  · exact .inl ⟨_, a, l.oth p _ a (fun _ e => nomatch e) (fun _ e => nomatch e), nl rfl, rfl⟩
theorem kBad {H L : Hp} {p : Addr} (k : (∃ u, H p = some u ∧ L p = some u ∧ ¬ Lrn p u ∧ noTb u = true) ∨ ∃ u od, H p = some u ∧ L p = some (.frz od u) ∧ Mut (some u)) {o : Option HO} (h : L p = o) : (match o with | none => False | some (.tbl _) => False | some (.tup _) => False | _ => True) := by
  rcases k with ⟨u, _, b, n, m⟩ | ⟨u, od, _, b, _⟩
  · rw [b] at h
    subst h
    cases u <;> first | exact trivial | (exact absurd (.inl ⟨_, rfl⟩) n) | cases m
  · rw [b] at h
    subst h
    exact trivial
theorem bor_core {pins : List (Addr × Obj)} {σ : L2.St} {s : Shared} {H0 G H : Hp} {δ : DS} {i : Nat} {v : V} {o : OD} (I : Inv X pins σ H s) (j : Jn X.K B G H) (st : StOk X.K B H0 G H σ δ) (h1 : δ[i]? = some (some (.ow v o))) :
    ∃ G1 L, Inv X pins σ L s ∧ Jn X.K B G1 L ∧ StOk X.K B H0 G1 L σ (δ.set i (some (.sh o.toD))) ∧ ∀ s2 G2 H2, Inv X pins σ H2 s2 → Gr X.K B G1 L G2 H2 → ∃ U G3, Inv X pins σ U s2 ∧ Gr X.K B G H G3 U := by
  obtain ⟨F, y⟩ := st.ex
  obtain ⟨e1, e2, e3, e4⟩ := y.ow h1
  obtain ⟨L, I2, l⟩ := lock_all (F i) I e3
  have hG : ∀ p ∈ F i, G p = none := fun p hp => (e2.node p hp).1
  have ex := frz_ex (G := G) (H := L) hG
  have nb : B.b ∉ F i := fun z => (e4 _ z).2.1.1 rfl
  have kinds := lkd_kinds l fun p hp => e2.node p hp
  have nf : ∀ p ∈ F i, ∀ u, H p = some u → Mut (some u) → ∀ o' u', X.H_0 p ≠ some (.frz o' u') := fun p hp u a m => I.nofrz a m
  have nn : ∀ a, ¬ B.nb a → a ∉ F i := fun a n z => n (e4 a z).2
  have xt : Xt B (frzG G L (F i)) L := j.next ex (fun a o n h => (l.out a (nn a n)).trans h) (fun a n _ => by unfold frzG; rw [if_neg (nn a n)]) (fun t h _ => by
    have nt : t.1 ∉ F i := fun z => (e4 _ z).2.tab t h rfl
    exact ⟨l.out _ nt, fun z => by unfold frzG; rw [if_neg nt]; exact z⟩) (fun a ps h => by
    by_cases ha : a ∈ F i
    · exact False.elim (kBad (kinds a ha) h)
    · rw [l.out a ha] at h
      exact ⟨_, h⟩)
  refine ⟨frzG G L (F i), L, I2, ⟨fun a u h => ?_, ?_, ?_, xt⟩, ?_, fun s2 G2 H2 J g => ?_⟩
  · unfold frzG at h
    split at h
    · exact h
    · rename_i hn
      rw [l.out a hn]
      exact j.ex a u h
  · unfold frzG
    rw [if_neg nb]
    exact j.no
  · obtain ⟨a, b, c, ns, h1, h2, h3⟩ := j.bag
    exact ⟨a, b, c, ns, by rw [l.out _ nb]; exact h1, ex_l ex h2, h3⟩
  · have s3 := y.put (i := i) (List.getElem?_eq_some_iff.mp e1).1 ex (H2 := L) (fun p _ _ hp => ⟨l.out p hp, by unfold frzG; rw [if_neg hp]⟩) (.sh (e2.dat hG l fun p hp => hp)) fun p hp => nomatch hp
    rw [set_same e1] at s3
    exact ⟨_, s3⟩
  · have h2 : ∀ p ∈ F i, H2 p = L p := fun p hp => by
      rcases kinds p hp with ⟨vs, _, b, _⟩ | ⟨u, od, _, b, _⟩
      · rw [b]; exact g.keep p _ (e4 p hp).2 b
      · rw [b]; exact g.keep p _ (e4 p hp).2 b
    obtain ⟨U, J2, u1, u2⟩ := unlock_all (H := H) (L := L) (F i) J e3 kinds h2 nf
    refine ⟨U, codG G G2, J2, Gr.back j g ex l.out (fun p hp => ?_) (fun p hp => (e4 p hp).2) hG u1 u2⟩
    rw [h2 p hp]
    rcases kinds p hp with ⟨vs, _, b, n, _⟩ | ⟨u, od, _, b, _⟩
    · exact ⟨_, b, ncod n⟩
    · exact ⟨_, b, ncod (nl rfl)⟩
def tBor (i : Nat) (t : DT) : DT := fun δ Q => ownO δ[i]? fun _ o => t (δ.set i (some (.sh o.toD))) Q
theorem ptd_bor (i : Nat) (h : PTD X B e t) : PTD X B e (tBor i t) := ⟨fun pins s σ H P I q => by
  obtain ⟨H0, G, δ, Q, j, st, hr, k⟩ := q
  have hr : ownO δ[i]? fun _ o => t (δ.set i (some (.sh o.toD))) Q := hr
  unfold ownO at hr
  split at hr
  · rename_i v o h1
    obtain ⟨G1, L, I2, j1, s1, back⟩ := bor_core I j st h1
    refine thn (h.run pins s σ L (fun b H2 => ∃ G2, Q b ∧ Gr X.K B G1 L G2 H2) I2 ⟨H0, G1, _, Q, j1, s1, hr, fun b G2 H2 q2 g2 => ⟨G2, q2, g2⟩⟩) fun b s2 ⟨H2, J, G2, q2, g2⟩ => ?_
    obtain ⟨U, G3, J2, g3⟩ := back s2 G2 H2 J g2
    exact ⟨U, J2, k b G3 U q2 g3⟩
  · exact hr.elim⟩
def scal : D → Bool
  | .non => true
  | .bl _ => true
  | .int _ => true
  | .str _ => true
  | _ => false
theorem scal_dat {K : PySem.W.Frag} {G G2 : Hp} {v : V} {d : D} (h : Dat K B G v d) (s : scal d = true) : Dat K B G2 v d := by
  cases h with
  | non => exact .non
  | bl b => exact .bl b
  | int i => exact .int i
  | str x => exact .str x
  | _ => cases s
def dBor (i : Nat) (r : DE) : DE := fun δ Q => ownO δ[i]? fun _ o => r (δ.set i (some (.sh o.toD))) fun d => scal d = true ∧ Q d
theorem pd_bor (i : Nat) (h : PD X B e r) : PD X B e (dBor i r) := ⟨fun pins s σ H P I q => by
  obtain ⟨H0, G, δ, Q, j, st, hr, k⟩ := q
  have hr : ownO δ[i]? fun _ o => r (δ.set i (some (.sh o.toD))) fun d => scal d = true ∧ Q d := hr
  unfold ownO at hr
  split at hr
  · rename_i v o h1
    obtain ⟨G1, L, I2, j1, s1, back⟩ := bor_core I j st h1
    refine thn (h.run pins s σ L (fun x H2 => ∃ G2 d, (scal d = true ∧ Q d) ∧ Gr X.K B G1 L G2 H2 ∧ Dat X.K B G2 x d) I2 ⟨H0, G1, _, _, j1, s1, hr, fun d x G2 H2 q2 g2 h2 => ⟨G2, d, q2, g2, h2⟩⟩) fun u s2 ⟨x, H2, J, r2, G2, d, q2, g2, h2⟩ => ?_
    obtain ⟨U, G3, J2, g3⟩ := back s2 G2 H2 J g2
    exact ⟨x, U, J2, r2, k d x G3 U q2.2 g3 (scal_dat h2 q2.1)⟩
  · exact hr.elim⟩
theorem z_tBor {δ : DS} {i : Nat} {Q : Bool → Prop} : tBor i t δ Q = ownO δ[i]? fun _ o => t (δ.set i (some (.sh o.toD))) Q := propext Iff.rfl
def scD (d : D) (Q : D → Prop) : Prop := scal d = true ∧ Q d
theorem z_dBor {δ : DS} {i : Nat} {Q : D → Prop} : dBor i r δ Q = ownO δ[i]? fun _ o => r (δ.set i (some (.sh o.toD))) fun d => scD d Q := propext Iff.rfl
theorem z_scN {Q : D → Prop} : scD .non Q = Q .non := by unfold scD; simp [scal]
theorem z_scB {Q : D → Prop} {b : Bool} : scD (.bl b) Q = Q (.bl b) := by unfold scD; simp [scal]
theorem z_scI {Q : D → Prop} {b : Int} : scD (.int b) Q = Q (.int b) := by unfold scD; simp [scal]
theorem z_scS {Q : D → Prop} {b : Str} : scD (.str b) Q = Q (.str b) := by unfold scD; simp [scal]
end
def getO : OD → List Nat → Option OD
  | o, [] => some o
  | .lst xs, k :: π => match xs[k]? with
    | some x => getO x π
    | none => none
  | .dic _ ks, k :: π => match ks[k]? with
    | some z => getO z.2 π
    | none => none
  | .obj _ xs, k :: π => match xs[k]? with
    | some x => getO x π
    | none => none
  | .sh _, _ :: _ => none
def setO : OD → List Nat → OD → OD
  | _, [], s => s
  | .lst xs, k :: π, s => match xs[k]? with
    | some x => .lst (xs.set k (setO x π s))
    | none => .lst xs
  | .dic t ks, k :: π, s => match ks[k]? with
    | some z => .dic t (ks.set k (z.1, setO z.2 π s))
    | none => .dic t ks
  | .obj C xs, k :: π, s => match xs[k]? with
    | some x => .obj C (xs.set k (setO x π s))
    | none => .obj C xs
  | .sh d, _ :: _, _ => .sh d
theorem relV_ex : ∀ v : V, ∃ u, L2.RelV v u
  | .non => ⟨_, rfl⟩
  | .bl b => ⟨_, rfl⟩
  | .int i => ⟨.int i default, default, rfl⟩
  | .str x => ⟨.str x default, default, rfl⟩
  | .byt b => ⟨.bytes b default, default, rfl⟩
  | .flt b => ⟨.float b default, default, rfl⟩
  | .ref a => ⟨_, rfl⟩
  | .ty n => ⟨_, rfl⟩
theorem relV_uniq {u : Value} : ∀ {v w : V}, L2.RelV v u → L2.RelV w u → v = w := fun {v w} h1 h2 => by
  cases v <;> cases w <;> simp only [L2.RelV] at h1 h2 <;> first
    | rfl
    | (subst h1; cases h2; rfl)
    | (subst h1; cases h2; done)
    | (obtain ⟨_, rfl⟩ := h1; obtain ⟨_, h2⟩ := h2; cases h2; rfl)
    | (obtain ⟨_, rfl⟩ := h1; obtain ⟨_, h2⟩ := h2; cases h2; done)
    | (obtain ⟨_, rfl⟩ := h1; cases h2; done)
    | (subst h1; obtain ⟨_, h2⟩ := h2; cases h2; done)
theorem relV_all : ∀ vs : List V, ∃ us : List Value, us.length = vs.length ∧ ∀ (i : Nat) (v : V), vs[i]? = some v → ∃ u : Value, us[i]? = some u ∧ L2.RelV v u
  | [] => ⟨[], rfl, fun i v e => by simp at e⟩
  | v :: vs => by
    obtain ⟨u, hu⟩ := relV_ex v
    obtain ⟨us, h1, h2⟩ := relV_all vs
    refine ⟨u :: us, by rw [List.length_cons, List.length_cons, h1], fun i w e => ?_⟩
    cases i with
    | zero => cases e; exact ⟨u, rfl, hu⟩
    | succ i => exact h2 i w e
/-- what an own object of slots holds is told by what stands there -/
theorem slO_inj {p C dx C2 dx2 : Addr} {vs ws : List V} (h : SlX.SlO p C dx (vs.map some) = SlX.SlO p C2 dx2 (ws.map some)) : vs = ws := by
  unfold SlX.SlO at h
  injection h with h
  have half : ∀ {C dx C2 dx2 : Addr} {vs ws : List V}, (∀ hp : Heap, (∃ sl : Array (Option Value), hp.get? p = some { PySem.W.instObj C dx with slots := sl } ∧ SlX.SlR (vs.map some) sl) → ∃ sl : Array (Option Value), hp.get? p = some { PySem.W.instObj C2 dx2 with slots := sl } ∧ SlX.SlR (ws.map some) sl) → ∀ (i : Nat) (w : V), ws[i]? = some w → vs[i]? = some w := by
    intro C dx C2 dx2 vs ws h i w hw
    obtain ⟨us, l1, l2⟩ := relV_all vs
    let ob : Obj := { PySem.W.instObj C dx with slots := (us.map some).toArray }
    have g : ({ objs := Array.replicate (p + 1) ob } : Heap).get? p = some ob := by
      show (match (Array.replicate (p + 1) ob)[p]? with | some ⟨_, _, .freed, _⟩ => none | o => o) = _
      rw [Array.getElem?_replicate, if_pos (Nat.lt_succ_self p)]
    obtain ⟨sl, e1, e2⟩ := h { objs := Array.replicate (p + 1) ob } ⟨(us.map some).toArray, g, fun j v e => by
      have e : vs[j]? = some v := by
        rw [List.getElem?_map] at e
        cases hj : vs[j]? with
        | none => rw [hj] at e; cases e
        | some z => rw [hj] at e; cases e; rfl
      obtain ⟨u, a, b⟩ := l2 j v e
      exact ⟨u, by simp [a], b⟩⟩
    rw [g] at e1
    injection e1 with e1
    have e3 : (us.map some).toArray = sl := congrArg Obj.slots e1
    subst e3
    obtain ⟨u, a, b⟩ := e2 i w (by simp [hw])
    have a : us[i]? = some u := by
      have a : (us.map some)[i]? = some (some u) := by simpa using a
      rw [List.getElem?_map] at a
      cases hj : us[i]? with
      | none => rw [hj] at a; cases a
      | some z => rw [hj] at a; cases a; rfl
    have hi : i < vs.length := by
      rw [← l1]
      exact (List.getElem?_eq_some_iff.mp a).1
    obtain ⟨u2, a2, b2⟩ := l2 i vs[i] (List.getElem?_eq_getElem hi)
    rw [a] at a2
    cases a2
    rw [List.getElem?_eq_getElem hi, relV_uniq b2 b]
  apply List.ext_getElem?
  intro i
  have h1 := half (C := C) (dx := dx) (C2 := C2) (dx2 := dx2) (vs := vs) (ws := ws) fun hp x => by
    have y := congrFun h hp
    exact y ▸ x
  have h2 := half (C := C2) (dx := dx2) (C2 := C) (dx2 := dx) (vs := ws) (ws := vs) fun hp x => by
    have y := congrFun h hp
    exact y ▸ x
  cases hv : vs[i]? with
  | none =>
    cases hw : ws[i]? with
    | none => rfl
    | some w => rw [h1 i w hw] at hv; cases hv
  | some v => exact (h2 i v hv).symm
open Classical in
noncomputable def slV (p : Addr) (φ : Heap → Prop) : List V := if h : ∃ (vs : List V) (C dx : Addr), HO.ext φ = SlX.SlO p C dx (vs.map some) then h.choose else []
theorem slV_of {p C dx : Addr} {φ : Heap → Prop} {vs : List V} (h : HO.ext φ = SlX.SlO p C dx (vs.map some)) : slV p φ = vs := by
  have ex : ∃ (vs : List V) (C dx : Addr), HO.ext φ = SlX.SlO p C dx (vs.map some) := ⟨vs, C, dx, h⟩
  unfold slV
  rw [dif_pos ex]
  obtain ⟨C2, dx2, h2⟩ := ex.choose_spec
  exact slO_inj (h2.symm.trans h)
noncomputable def locV (H : Hp) : V → List Nat → Option V
  | v, [] => some v
  | .ref p, k :: π => match H p with
    | some (.lst vs) => match vs[k]? with
      | some u => locV H u π
      | none => none
    | some (.dK vs) => match vs[k]? with
      | some u => locV H u.2 π
      | none => none
    | some (.dT vs) => match vs[k]? with
      | some u => locV H u.2 π
      | none => none
    | some (.ext φ) => match (slV p φ)[k]? with
      | some u => locV H u π
      | none => none
    | _ => none
  | _, _ :: _ => none
section
variable {K : PySem.W.Frag} {B : Bx} {G H : Hp}
theorem Owns.at : ∀ {vs : List V} {xs : List OD} {f : List Addr} {k : Nat} {x : OD}, Owns K B G H vs xs f → xs[k]? = some x → ∃ u f1 fk f2, vs[k]? = some u ∧ f = f1 ++ (fk ++ f2) ∧ Own K B G H u x fk ∧
    ∀ {G2 H2 : Hp} {x' : OD} {u' : V} {fk' : List Addr}, Ex G G2 → Kept G H G2 H2 f1 → Kept G H G2 H2 f2 → Own K B G2 H2 u' x' fk' → Owns K B G2 H2 (vs.set k u') (xs.set k x') (f1 ++ (fk' ++ f2))
  | _, _, _, 0, _, .cons (v := v) (f := f) (g := g) h t, e => by
    cases e
    exact ⟨v, [], f, g, rfl, rfl, h, fun ex _ k2 h2 => by rw [List.nil_append]; exact .cons h2 (t.keep ex k2)⟩
  | _, _, _, k + 1, x, .cons (v := v) (f := f) (vs := vs) (os := os) h t, e => by
    obtain ⟨u, f1, fk, f2, a1, a2, a3, a4⟩ := Owns.at (k := k) (x := x) t e
    refine ⟨u, f ++ f1, fk, f2, a1, by rw [a2, List.append_assoc], a3, fun ex k1 k2 h2 => ?_⟩
    have z := Owns.cons (h.keep ex k1.l) (a4 ex k1.r k2 h2)
    rw [List.append_assoc]
    exact z
theorem OwnK.at : ∀ {vs : List (Key × V)} {xs : List (D × OD)} {f : List Addr} {k : Nat} {d : D} {x : OD}, OwnK K B G H vs xs f → xs[k]? = some (d, x) → ∃ key u f1 fk f2, vs[k]? = some (key, u) ∧ f = f1 ++ (fk ++ f2) ∧ Own K B G H u x fk ∧ ((∃ i, key = .inl i ∧ d = .int i) ∨ ∃ s, key = .inr s ∧ d = .str s) ∧
    ∀ {G2 H2 : Hp} {x' : OD} {u' : V} {fk' : List Addr}, Ex G G2 → Kept G H G2 H2 f1 → Kept G H G2 H2 f2 → Own K B G2 H2 u' x' fk' → OwnK K B G2 H2 (vs.set k (key, u')) (xs.set k (d, x')) (f1 ++ (fk' ++ f2))
  | _, _, _, 0, _, _, .consI (i := i) (v := v) (f := f) (g := g) h t, e => by
    cases e
    exact ⟨_, v, [], f, g, rfl, rfl, h, .inl ⟨i, rfl, rfl⟩, fun ex _ k2 h2 => by rw [List.nil_append]; exact .consI h2 (t.keep ex k2)⟩
  | _, _, _, 0, _, _, .consS (x := i) (v := v) (f := f) (g := g) h t, e => by
    cases e
    exact ⟨_, v, [], f, g, rfl, rfl, h, .inr ⟨i, rfl, rfl⟩, fun ex _ k2 h2 => by rw [List.nil_append]; exact .consS h2 (t.keep ex k2)⟩
  | _, _, _, k + 1, d, x, .consI (i := i) (v := v) (f := f) h t, e => by
    obtain ⟨key, u, f1, fk, f2, a1, a2, a3, a5, a4⟩ := OwnK.at (k := k) (d := d) (x := x) t e
    refine ⟨key, u, f ++ f1, fk, f2, a1, by rw [a2, List.append_assoc], a3, a5, fun ex k1 k2 h2 => ?_⟩
    have z := OwnK.consI (i := i) (h.keep ex k1.l) (a4 ex k1.r k2 h2)
    rw [List.append_assoc]
    exact z
  | _, _, _, k + 1, d, x, .consS (x := i) (v := v) (f := f) h t, e => by
    obtain ⟨key, u, f1, fk, f2, a1, a2, a3, a5, a4⟩ := OwnK.at (k := k) (d := d) (x := x) t e
    refine ⟨key, u, f ++ f1, fk, f2, a1, by rw [a2, List.append_assoc], a3, a5, fun ex k1 k2 h2 => ?_⟩
    have z := OwnK.consS (x := i) (h.keep ex k1.l) (a4 ex k1.r k2 h2)
    rw [List.append_assoc]
    exact z
theorem OwnT.at : ∀ {vs : List (List Key × V)} {xs : List (D × OD)} {f : List Addr} {k : Nat} {d : D} {x : OD}, OwnT K B G H vs xs f → xs[k]? = some (d, x) → ∃ key u f1 fk f2, vs[k]? = some (key, u) ∧ f = f1 ++ (fk ++ f2) ∧ Own K B G H u x fk ∧ d = embT key ∧
    ∀ {G2 H2 : Hp} {x' : OD} {u' : V} {fk' : List Addr}, Ex G G2 → Kept G H G2 H2 f1 → Kept G H G2 H2 f2 → Own K B G2 H2 u' x' fk' → OwnT K B G2 H2 (vs.set k (key, u')) (xs.set k (d, x')) (f1 ++ (fk' ++ f2))
  | _, _, _, 0, _, _, .cons (k := i) (v := v) (f := f) (g := g) h t, e => by
    cases e
    exact ⟨_, v, [], f, g, rfl, rfl, h, rfl, fun ex _ k2 h2 => by rw [List.nil_append]; exact .cons h2 (t.keep ex k2)⟩
  | _, _, _, k + 1, d, x, .cons (k := i) (v := v) (f := f) h t, e => by
    obtain ⟨key, u, f1, fk, f2, a1, a2, a3, a5, a4⟩ := OwnT.at (k := k) (d := d) (x := x) t e
    refine ⟨key, u, f ++ f1, fk, f2, a1, by rw [a2, List.append_assoc], a3, a5, fun ex k1 k2 h2 => ?_⟩
    have z := OwnT.cons (k := i) (h.keep ex k1.l) (a4 ex k1.r k2 h2)
    rw [List.append_assoc]
    exact z
theorem set_get {α : Type} : ∀ {l : List α} {k : Nat} {a : α}, l[k]? = some a → l.set k a = l
  | _ :: _, 0, _, e => by cases e; rfl
  | x :: l, k + 1, a, e => by rw [List.set_cons_succ, set_get (l := l) (k := k) (a := a) e]
/-- the part's own places replaced within all of them -/
theorem nodup_mid {p : Addr} {f1 fk f2 fk' : List Addr} {fs : List Addr} (nd : (p :: (f1 ++ (fk ++ f2))).Nodup) (nk : fk'.Nodup) (h : ∀ q ∈ fk', q ∈ fs ∨ q ∈ fk) (hs : ∀ q ∈ fs, q ∈ fk ∨ q ∉ (p :: (f1 ++ (fk ++ f2)))) : (p :: (f1 ++ (fk' ++ f2))).Nodup := by
  obtain ⟨n0, n1⟩ := List.nodup_cons.mp nd
  obtain ⟨a1, a2, a3⟩ := List.nodup_append.mp n1
  obtain ⟨b1, b2, b3⟩ := List.nodup_append.mp a2
  have key : ∀ q ∈ fk', q ∈ fk ∨ q ∉ (p :: (f1 ++ (fk ++ f2))) := fun q hq => (h q hq).elim (hs q) .inl
  refine List.nodup_cons.mpr ⟨fun z => ?_, List.nodup_append.mpr ⟨a1, List.nodup_append.mpr ⟨nk, b2, fun x hx y hy e => ?_⟩, fun x hx y hy e => ?_⟩⟩
  · rcases List.mem_append.mp z with z | z
    · exact n0 (List.mem_append_left _ z)
    · rcases List.mem_append.mp z with z | z
      · rcases key p z with q | q
        · exact n0 (List.mem_append_right _ (List.mem_append_left _ q))
        · exact q List.mem_cons_self
      · exact n0 (List.mem_append_right _ (List.mem_append_right _ z))
  · subst e
    rcases key x hx with q | q
    · exact b3 x q x hy rfl
    · exact q (List.mem_cons_of_mem _ (List.mem_append_right _ (List.mem_append_right _ hy)))
  · subst e
    rcases List.mem_append.mp hy with hy | hy
    · rcases key x hy with q | q
      · exact a3 x hx x (List.mem_append_left _ q) rfl
      · exact q (List.mem_cons_of_mem _ (List.mem_append_left _ hx))
    · exact a3 x hx x (List.mem_append_right _ hy) rfl
def Focus (K : PySem.W.Frag) (B : Bx) (G H : Hp) (v : V) (o : OD) (f : List Addr) (π : List Nat) (s : OD) : Prop :=
  ∃ u fs, locV H v π = some u ∧ Own K B G H u s fs ∧ fs.Nodup ∧ (∀ p ∈ fs, p ∈ f) ∧
    ∀ {G2 H2 : Hp} {s' : OD} {fs' : List Addr}, Ex G G2 → (∀ p ∈ f, p ∉ fs → H2 p = H p ∧ G2 p = G p) → Own K B G2 H2 u s' fs' → fs'.Nodup → (∀ p ∈ fs', p ∈ fs ∨ p ∉ f) → ∃ f', Own K B G2 H2 v (setO o π s') f' ∧ f'.Nodup ∧ ∀ p ∈ f', p ∈ fs' ∨ p ∈ f
theorem focus : ∀ (π : List Nat) {v : V} {o s : OD} {f : List Addr}, Own K B G H v o f → f.Nodup → getO o π = some s → Focus K B G H v o f π s
  | [], v, o, s, f, h, nd, e => by
    have e : some o = some s := by cases o <;> exact e
    cases e
    exact ⟨v, f, (by cases v <;> rfl), h, nd, fun p hp => hp, fun {G2 H2 s' fs'} _ _ h2 n2 h3 => ⟨fs', (by have : setO o [] s' = s' := (by cases o <;> rfl); rw [this]; exact h2), n2, fun p hp => .inl hp⟩⟩
  | k :: π, _, .sh _, s, f, h, nd, e => nomatch e
  | k :: π, _, .lst xs, s, _, .lst (p := p) (vs := vs) (f := f) a1 a2 a3, nd, e => by
    have e : (match xs[k]? with | some x => getO x π | none => none) = some s := e
    cases hx : xs[k]? with
    | none => rw [hx] at e; cases e
    | some x =>
      rw [hx] at e
      obtain ⟨u, f1, fk, f2, b1, b2, b3, b4⟩ := a3.at hx
      subst b2
      have nk : fk.Nodup := (List.nodup_append.mp (List.nodup_append.mp (List.nodup_cons.mp nd).2).2.1).1
      obtain ⟨w, fs, c1, c2, c3, c4, c5⟩ := focus π b3 nk e
      refine ⟨w, fs, ?_, c2, c3, fun q hq => List.mem_cons_of_mem _ (List.mem_append_right _ (List.mem_append_left _ (c4 q hq))), fun {G2 H2 s' fs'} ex kp h2 n2 h3 => ?_⟩
      · show (match H p with | some (.lst vs) => _ | some (.dK vs) => _ | some (.dT vs) => _ | some (.ext φ) => _ | _ => none) = _
        rw [a1]
        show (match vs[k]? with | some u => locV H u π | none => none) = _
        rw [b1]
        exact c1
      · have dis : ∀ q, q ∈ fs → q ≠ p ∧ q ∉ f1 ∧ q ∉ f2 := fun q hq => by
          have hk := c4 q hq
          obtain ⟨n0, n1⟩ := List.nodup_cons.mp nd
          obtain ⟨_, m2, m3⟩ := List.nodup_append.mp n1
          obtain ⟨_, _, m4⟩ := List.nodup_append.mp m2
          exact ⟨fun z => n0 (by rw [← z]; exact List.mem_append_right _ (List.mem_append_left _ hk)), fun z => m3 q z q (List.mem_append_left _ hk) rfl, fun z => m4 q hk q z rfl⟩
        obtain ⟨fk', d1, d2, d3⟩ := c5 ex (fun q hq hn => kp q (List.mem_cons_of_mem _ (List.mem_append_right _ (List.mem_append_left _ hq))) hn) h2 n2 fun q hq => (h3 q hq).imp id fun z z2 => z (List.mem_cons_of_mem _ (List.mem_append_right _ (List.mem_append_left _ z2)))
        have k1 : Kept G H G2 H2 f1 := fun q hq => kp q (List.mem_cons_of_mem _ (List.mem_append_left _ hq)) fun z => (dis q z).2.1 hq
        have k2 : Kept G H G2 H2 f2 := fun q hq => kp q (List.mem_cons_of_mem _ (List.mem_append_right _ (List.mem_append_right _ hq))) fun z => (dis q z).2.2 hq
        have k0 := kp p List.mem_cons_self fun z => (dis p z).1 rfl
        have z := b4 ex k1 k2 d1
        rw [set_get b1] at z
        refine ⟨p :: (f1 ++ (fk' ++ f2)), ?_, nodup_mid nd d2 d3 fun q hq => (h3 q hq).imp (c4 q) id, fun q hq => ?_⟩
        · have es : setO (.lst xs) (k :: π) s' = .lst (xs.set k (setO x π s')) := by
            show (match xs[k]? with | some x => OD.lst (xs.set k (setO x π s')) | none => OD.lst xs) = _
            rw [hx]
          rw [es]
          exact .lst (k0.1.trans a1) (k0.2.trans a2) z
        · rcases List.mem_cons.mp hq with rfl | hq
          · exact .inr List.mem_cons_self
          · rcases List.mem_append.mp hq with hq | hq
            · exact .inr (List.mem_cons_of_mem _ (List.mem_append_left _ hq))
            · rcases List.mem_append.mp hq with hq | hq
              · exact (d3 q hq).imp id fun z => List.mem_cons_of_mem _ (List.mem_append_right _ (List.mem_append_left _ z))
              · exact .inr (List.mem_cons_of_mem _ (List.mem_append_right _ (List.mem_append_right _ hq)))
  | k :: π, _, .dic false xs, s, _, .dK (p := p) (kvs := vs) (f := f) a1 a2 a3, nd, e => by
    have e : (match xs[k]? with | some x => getO x.2 π | none => none) = some s := e
    cases hx : xs[k]? with
    | none => rw [hx] at e; cases e
    | some x =>
      obtain ⟨kd, x⟩ := x
      rw [hx] at e
      obtain ⟨key, u, f1, fk, f2, b1, b2, b3, _, b4⟩ := a3.at hx
      subst b2
      have nk : fk.Nodup := (List.nodup_append.mp (List.nodup_append.mp (List.nodup_cons.mp nd).2).2.1).1
      obtain ⟨w, fs, c1, c2, c3, c4, c5⟩ := focus π b3 nk e
      refine ⟨w, fs, ?_, c2, c3, fun q hq => List.mem_cons_of_mem _ (List.mem_append_right _ (List.mem_append_left _ (c4 q hq))), fun {G2 H2 s' fs'} ex kp h2 n2 h3 => ?_⟩
      · show (match H p with | some (.lst vs) => _ | some (.dK vs) => _ | some (.dT vs) => _ | some (.ext φ) => _ | _ => none) = _
        rw [a1]
        show (match vs[k]? with | some u => locV H u.2 π | none => none) = _
        rw [b1]
        exact c1
      · have dis : ∀ q, q ∈ fs → q ≠ p ∧ q ∉ f1 ∧ q ∉ f2 := fun q hq => by
          have hk := c4 q hq
          obtain ⟨n0, n1⟩ := List.nodup_cons.mp nd
          obtain ⟨_, m2, m3⟩ := List.nodup_append.mp n1
          obtain ⟨_, _, m4⟩ := List.nodup_append.mp m2
          exact ⟨fun z => n0 (by rw [← z]; exact List.mem_append_right _ (List.mem_append_left _ hk)), fun z => m3 q z q (List.mem_append_left _ hk) rfl, fun z => m4 q hk q z rfl⟩
        obtain ⟨fk', d1, d2, d3⟩ := c5 ex (fun q hq hn => kp q (List.mem_cons_of_mem _ (List.mem_append_right _ (List.mem_append_left _ hq))) hn) h2 n2 fun q hq => (h3 q hq).imp id fun z z2 => z (List.mem_cons_of_mem _ (List.mem_append_right _ (List.mem_append_left _ z2)))
        have k1 : Kept G H G2 H2 f1 := fun q hq => kp q (List.mem_cons_of_mem _ (List.mem_append_left _ hq)) fun z => (dis q z).2.1 hq
        have k2 : Kept G H G2 H2 f2 := fun q hq => kp q (List.mem_cons_of_mem _ (List.mem_append_right _ (List.mem_append_right _ hq))) fun z => (dis q z).2.2 hq
        have k0 := kp p List.mem_cons_self fun z => (dis p z).1 rfl
        have z := b4 ex k1 k2 d1
        rw [set_get b1] at z
        refine ⟨p :: (f1 ++ (fk' ++ f2)), ?_, nodup_mid nd d2 d3 fun q hq => (h3 q hq).imp (c4 q) id, fun q hq => ?_⟩
        · have es : setO (.dic false xs) (k :: π) s' = .dic false (xs.set k (kd, setO x π s')) := by
            show (match xs[k]? with | some x => OD.dic false (xs.set k (x.1, setO x.2 π s')) | none => OD.dic false xs) = _
            rw [hx]
          rw [es]
          exact .dK (k0.1.trans a1) (k0.2.trans a2) z
        · rcases List.mem_cons.mp hq with rfl | hq
          · exact .inr List.mem_cons_self
          · rcases List.mem_append.mp hq with hq | hq
            · exact .inr (List.mem_cons_of_mem _ (List.mem_append_left _ hq))
            · rcases List.mem_append.mp hq with hq | hq
              · exact (d3 q hq).imp id fun z => List.mem_cons_of_mem _ (List.mem_append_right _ (List.mem_append_left _ z))
              · exact .inr (List.mem_cons_of_mem _ (List.mem_append_right _ (List.mem_append_right _ hq)))
  | k :: π, _, .dic true xs, s, _, .dT (p := p) (kvs := vs) (f := f) a1 a2 a3, nd, e => by
    have e : (match xs[k]? with | some x => getO x.2 π | none => none) = some s := e
    cases hx : xs[k]? with
    | none => rw [hx] at e; cases e
    | some x =>
      obtain ⟨kd, x⟩ := x
      rw [hx] at e
      obtain ⟨key, u, f1, fk, f2, b1, b2, b3, _, b4⟩ := a3.at hx
      subst b2
      have nk : fk.Nodup := (List.nodup_append.mp (List.nodup_append.mp (List.nodup_cons.mp nd).2).2.1).1
      obtain ⟨w, fs, c1, c2, c3, c4, c5⟩ := focus π b3 nk e
      refine ⟨w, fs, ?_, c2, c3, fun q hq => List.mem_cons_of_mem _ (List.mem_append_right _ (List.mem_append_left _ (c4 q hq))), fun {G2 H2 s' fs'} ex kp h2 n2 h3 => ?_⟩
      · show (match H p with | some (.lst vs) => _ | some (.dK vs) => _ | some (.dT vs) => _ | some (.ext φ) => _ | _ => none) = _
        rw [a1]
        show (match vs[k]? with | some u => locV H u.2 π | none => none) = _
        rw [b1]
        exact c1
      · have dis : ∀ q, q ∈ fs → q ≠ p ∧ q ∉ f1 ∧ q ∉ f2 := fun q hq => by
          have hk := c4 q hq
          obtain ⟨n0, n1⟩ := List.nodup_cons.mp nd
          obtain ⟨_, m2, m3⟩ := List.nodup_append.mp n1
          obtain ⟨_, _, m4⟩ := List.nodup_append.mp m2
          exact ⟨fun z => n0 (by rw [← z]; exact List.mem_append_right _ (List.mem_append_left _ hk)), fun z => m3 q z q (List.mem_append_left _ hk) rfl, fun z => m4 q hk q z rfl⟩
        obtain ⟨fk', d1, d2, d3⟩ := c5 ex (fun q hq hn => kp q (List.mem_cons_of_mem _ (List.mem_append_right _ (List.mem_append_left _ hq))) hn) h2 n2 fun q hq => (h3 q hq).imp id fun z z2 => z (List.mem_cons_of_mem _ (List.mem_append_right _ (List.mem_append_left _ z2)))
        have k1 : Kept G H G2 H2 f1 := fun q hq => kp q (List.mem_cons_of_mem _ (List.mem_append_left _ hq)) fun z => (dis q z).2.1 hq
        have k2 : Kept G H G2 H2 f2 := fun q hq => kp q (List.mem_cons_of_mem _ (List.mem_append_right _ (List.mem_append_right _ hq))) fun z => (dis q z).2.2 hq
        have k0 := kp p List.mem_cons_self fun z => (dis p z).1 rfl
        have z := b4 ex k1 k2 d1
        rw [set_get b1] at z
        refine ⟨p :: (f1 ++ (fk' ++ f2)), ?_, nodup_mid nd d2 d3 fun q hq => (h3 q hq).imp (c4 q) id, fun q hq => ?_⟩
        · have es : setO (.dic true xs) (k :: π) s' = .dic true (xs.set k (kd, setO x π s')) := by
            show (match xs[k]? with | some x => OD.dic true (xs.set k (x.1, setO x.2 π s')) | none => OD.dic true xs) = _
            rw [hx]
          rw [es]
          exact .dT (k0.1.trans a1) (k0.2.trans a2) z
        · rcases List.mem_cons.mp hq with rfl | hq
          · exact .inr List.mem_cons_self
          · rcases List.mem_append.mp hq with hq | hq
            · exact .inr (List.mem_cons_of_mem _ (List.mem_append_left _ hq))
            · rcases List.mem_append.mp hq with hq | hq
              · exact (d3 q hq).imp id fun z => List.mem_cons_of_mem _ (List.mem_append_right _ (List.mem_append_left _ z))
              · exact .inr (List.mem_cons_of_mem _ (List.mem_append_right _ (List.mem_append_right _ hq)))
  | k :: π, _, .obj C xs, s, _, .obj (p := p) (dx := dx) (vs := vs) (f := f) a1 ax a2 ag a3, nd, e => by
    have e : (match xs[k]? with | some x => getO x π | none => none) = some s := e
    cases hx : xs[k]? with
    | none => rw [hx] at e; cases e
    | some x =>
      rw [hx] at e
      obtain ⟨u, f1, fk, f2, b1, b2, b3, b4⟩ := a3.at hx
      subst b2
      have hdx : dx ∉ f1 ++ (fk ++ f2) ∧ p ≠ dx := by
        obtain ⟨n0, n1⟩ := List.nodup_cons.mp nd
        exact ⟨(List.nodup_cons.mp n1).1, fun z => n0 (by rw [z]; exact List.mem_cons_self)⟩
      have ndp : (p :: (f1 ++ (fk ++ f2))).Nodup := by
        obtain ⟨n0, n1⟩ := List.nodup_cons.mp nd
        exact List.nodup_cons.mpr ⟨fun z => n0 (List.mem_cons_of_mem _ z), (List.nodup_cons.mp n1).2⟩
      have ndx : (dx :: (f1 ++ (fk ++ f2))).Nodup := (List.nodup_cons.mp nd).2
      have nd0 := (List.nodup_cons.mp ndp).2
      have nk : fk.Nodup := (List.nodup_append.mp (List.nodup_append.mp nd0).2.1).1
      obtain ⟨w, fs, c1, c2, c3, c4, c5⟩ := focus π b3 nk e
      refine ⟨w, fs, ?_, c2, c3, fun q hq => List.mem_cons_of_mem _ (List.mem_cons_of_mem _ (List.mem_append_right _ (List.mem_append_left _ (c4 q hq)))), fun {G2 H2 s' fs'} ex kp h2 n2 h3 => ?_⟩
      · show (match H p with | some (.lst vs) => _ | some (.dK vs) => _ | some (.dT vs) => _ | some (.ext φ) => _ | _ => none) = _
        rw [a1]
        show (match (slV p _)[k]? with | some u => locV H u π | none => none) = _
        rw [slV_of rfl]
        rw [b1]
        exact c1
      · have dis : ∀ q, q ∈ fs → q ≠ p ∧ q ∉ f1 ∧ q ∉ f2 ∧ q ≠ dx := fun q hq => by
          have hk := c4 q hq
          obtain ⟨n0, n1⟩ := List.nodup_cons.mp ndp
          obtain ⟨_, m2, m3⟩ := List.nodup_append.mp n1
          obtain ⟨_, _, m4⟩ := List.nodup_append.mp m2
          exact ⟨fun z => n0 (by rw [← z]; exact List.mem_append_right _ (List.mem_append_left _ hk)), fun z => m3 q z q (List.mem_append_left _ hk) rfl, fun z => m4 q hk q z rfl, fun z => hdx.1 (by rw [← z]; exact List.mem_append_right _ (List.mem_append_left _ hk))⟩
        obtain ⟨fk', d1, d2, d3⟩ := c5 ex (fun q hq hn => kp q (List.mem_cons_of_mem _ (List.mem_cons_of_mem _ (List.mem_append_right _ (List.mem_append_left _ hq)))) hn) h2 n2 fun q hq => (h3 q hq).imp id fun z z2 => z (List.mem_cons_of_mem _ (List.mem_cons_of_mem _ (List.mem_append_right _ (List.mem_append_left _ z2))))
        have k1 : Kept G H G2 H2 f1 := fun q hq => kp q (List.mem_cons_of_mem _ (List.mem_cons_of_mem _ (List.mem_append_left _ hq))) fun z => (dis q z).2.1 hq
        have k2 : Kept G H G2 H2 f2 := fun q hq => kp q (List.mem_cons_of_mem _ (List.mem_cons_of_mem _ (List.mem_append_right _ (List.mem_append_right _ hq)))) fun z => (dis q z).2.2.1 hq
        have k0 := kp p List.mem_cons_self fun z => (dis p z).1 rfl
        have kx := kp dx (List.mem_cons_of_mem _ List.mem_cons_self) fun z => (dis dx z).2.2.2 rfl
        have z := b4 ex k1 k2 d1
        rw [set_get b1] at z
        refine ⟨p :: dx :: (f1 ++ (fk' ++ f2)), ?_, List.nodup_cons.mpr ⟨fun z => ?_, nodup_mid ndx d2 d3 fun q hq => (h3 q hq).imp (c4 q) fun z z2 => z (List.mem_cons_of_mem _ z2)⟩, fun q hq => ?_⟩
        · have es : setO (.obj C xs) (k :: π) s' = .obj C (xs.set k (setO x π s')) := by
            show (match xs[k]? with | some x => OD.obj C (xs.set k (setO x π s')) | none => OD.obj C xs) = _
            rw [hx]
          rw [es]
          exact .obj (k0.1.trans a1) (kx.1.trans ax) (k0.2.trans a2) (kx.2.trans ag) z
        · have np := (List.nodup_cons.mp (nodup_mid (fs := fs') ndp d2 d3 fun q hq => (h3 q hq).imp (c4 q) fun z z2 => z (by
            rcases List.mem_cons.mp z2 with rfl | z2
            · exact List.mem_cons_self
            · exact List.mem_cons_of_mem _ (List.mem_cons_of_mem _ z2)))).1
          rcases List.mem_cons.mp z with z | z
          · exact hdx.2 z
          · exact np z
        · rcases List.mem_cons.mp hq with rfl | hq
          · exact .inr List.mem_cons_self
          · rcases List.mem_cons.mp hq with rfl | hq
            · exact .inr (List.mem_cons_of_mem _ List.mem_cons_self)
            · rcases List.mem_append.mp hq with hq | hq
              · exact .inr (List.mem_cons_of_mem _ (List.mem_cons_of_mem _ (List.mem_append_left _ hq)))
              · rcases List.mem_append.mp hq with hq | hq
                · exact (d3 q hq).imp id fun z => List.mem_cons_of_mem _ (List.mem_cons_of_mem _ (List.mem_append_right _ (List.mem_append_left _ z)))
                · exact .inr (List.mem_cons_of_mem _ (List.mem_cons_of_mem _ (List.mem_append_right _ (List.mem_append_right _ hq))))
end
end DL
namespace DL
open PySem PySem.Spec PyProof.Rows L2 Evl
abbrev DR := DS → (Nat → List Nat → Prop) → Prop
def liftR (K : PySem.W.Frag) (B : Bx) (ρ : DR) : TE := fun σ H P => ∃ (H0 G : Hp) (δ : DS) (Q : Nat → List Nat → Prop), Jn K B G H ∧ StOk K B H0 G H σ δ ∧ ρ δ Q ∧ ∀ i π v0 v G2 H2, Q i π → Gr K B G H G2 H2 → σ[i]? = some (some v0) → locV H2 v0 π = some v → P v H2
abbrev PR (X : Cx) (B : Bx) (e : Expr) (ρ : DR) : Prop := PE X e (liftR X.K B ρ)
def getS (δ : DS) (i : Nat) (π : List Nat) : Option OD := match δ[i]? with
  | some (some (.ow _ o)) => getO o π
  | _ => none
def putS (δ : DS) (i : Nat) (π : List Nat) (s : OD) : DS := match δ[i]? with
  | some (some (.ow v o)) => δ.set i (some (.ow v (setO o π s)))
  | _ => δ
theorem getS_at {δ : DS} {i : Nat} {π : List Nat} {s : OD} (h : getS δ i π = some s) : ∃ v o, δ[i]? = some (some (.ow v o)) ∧ getO o π = some s := by
  unfold getS at h
  split at h
  · exact ⟨_, _, by assumption, h⟩
  · cases h
theorem putS_at {δ : DS} {i : Nat} {π : List Nat} {v : V} {o : OD} (h : δ[i]? = some (some (.ow v o))) (s : OD) : putS δ i π s = δ.set i (some (.ow v (setO o π s))) := by
  unfold putS
  rw [h]
def lstAt (δ : DS) (i : Nat) (π : List Nat) (K : List OD → Prop) : Prop := match getS δ i π with
  | some (.lst xs) => K xs
  | _ => False
def dicAt (δ : DS) (i : Nat) (π : List Nat) (K : Bool → List (D × OD) → Prop) : Prop := match getS δ i π with
  | some (.dic t ks) => K t ks
  | _ => False
theorem lstAt_at {δ : DS} {i : Nat} {π : List Nat} {K : List OD → Prop} (h : lstAt δ i π K) : ∃ xs, getS δ i π = some (.lst xs) ∧ K xs := by
  unfold lstAt at h
  split at h
  · exact ⟨_, by assumption, h⟩
  · exact h.elim
theorem dicAt_at {δ : DS} {i : Nat} {π : List Nat} {K : Bool → List (D × OD) → Prop} (h : dicAt δ i π K) : ∃ t ks, getS δ i π = some (.dic t ks) ∧ K t ks := by
  unfold dicAt at h
  split at h
  · exact ⟨_, _, by assumption, h⟩
  · exact h.elim
section
variable {K : PySem.W.Frag} {B : Bx} {G H H0 : Hp} {σ : L2.St} {δ : DS}
theorem loc_keep {H2 : Hp} : ∀ (π : List Nat) {v : V} {o s : OD} {f : List Addr}, Own K B G H v o f → getO o π = some s → (∀ p ∈ f, H2 p = H p) → locV H2 v π = locV H v π
  | [], v, _, _, _, _, _, _ => by cases v <;> rfl
  | k :: π, _, .sh _, s, f, h, e, _ => nomatch e
  | k :: π, _, .lst xs, s, _, .lst (p := p) (vs := vs) (f := f) a1 a2 a3, e, hk => by
    have e : (match xs[k]? with | some x => getO x π | none => none) = some s := e
    cases hx : xs[k]? with
    | none => rw [hx] at e; cases e
    | some x =>
      rw [hx] at e
      obtain ⟨u, f1, fk, f2, b1, b2, b3, _⟩ := a3.at hx
      subst b2
      have ih := loc_keep π b3 e fun q hq => hk q (List.mem_cons_of_mem _ (List.mem_append_right _ (List.mem_append_left _ hq)))
      show (match H2 p with | some (.lst vs) => (match vs[k]? with | some u => locV H2 u π | none => none) | some (.dK vs) => _ | some (.dT vs) => _ | some (.ext φ) => _ | _ => none) = (match H p with | some (.lst vs) => (match vs[k]? with | some u => locV H u π | none => none) | some (.dK vs) => _ | some (.dT vs) => _ | some (.ext φ) => _ | _ => none)
      rw [hk p List.mem_cons_self, a1]
      show (match vs[k]? with | some u => locV H2 u π | none => none) = (match vs[k]? with | some u => locV H u π | none => none)
      rw [b1]
      exact ih
  | k :: π, _, .obj C xs, s, _, .obj (p := p) (vs := vs) (f := f) a1 ax a2 ag a3, e, hk => by
    have e : (match xs[k]? with | some x => getO x π | none => none) = some s := e
    cases hx : xs[k]? with
    | none => rw [hx] at e; cases e
    | some x =>
      rw [hx] at e
      obtain ⟨u, f1, fk, f2, b1, b2, b3, _⟩ := a3.at hx
      subst b2
      have ih := loc_keep π b3 e fun q hq => hk q (List.mem_cons_of_mem _ (List.mem_cons_of_mem _ (List.mem_append_right _ (List.mem_append_left _ hq))))
      show (match H2 p with | some (.lst vs) => _ | some (.dK vs) => _ | some (.dT vs) => _ | some (.ext φ) => (match (slV p φ)[k]? with | some u => locV H2 u π | none => none) | _ => none) = (match H p with | some (.lst vs) => _ | some (.dK vs) => _ | some (.dT vs) => _ | some (.ext φ) => (match (slV p φ)[k]? with | some u => locV H u π | none => none) | _ => none)
      rw [hk p List.mem_cons_self, a1]
      show (match (slV p _)[k]? with | some u => locV H2 u π | none => none) = (match (slV p _)[k]? with | some u => locV H u π | none => none)
      rw [slV_of rfl, b1]
      exact ih
  | k :: π, _, .dic false xs, s, _, .dK (p := p) (kvs := vs) (f := f) a1 a2 a3, e, hk => by
    have e : (match xs[k]? with | some x => getO x.2 π | none => none) = some s := e
    cases hx : xs[k]? with
    | none => rw [hx] at e; cases e
    | some x =>
      obtain ⟨kd, x⟩ := x
      rw [hx] at e
      obtain ⟨key, u, f1, fk, f2, b1, b2, b3, _⟩ := a3.at hx
      subst b2
      have ih := loc_keep π b3 e fun q hq => hk q (List.mem_cons_of_mem _ (List.mem_append_right _ (List.mem_append_left _ hq)))
      show (match H2 p with | some (.lst vs) => _ | some (.dK vs) => (match vs[k]? with | some u => locV H2 u.2 π | none => none) | some (.dT vs) => _ | some (.ext φ) => _ | _ => none) = (match H p with | some (.lst vs) => _ | some (.dK vs) => (match vs[k]? with | some u => locV H u.2 π | none => none) | some (.dT vs) => _ | some (.ext φ) => _ | _ => none)
      rw [hk p List.mem_cons_self, a1]
      show (match vs[k]? with | some u => locV H2 u.2 π | none => none) = (match vs[k]? with | some u => locV H u.2 π | none => none)
      rw [b1]
      exact ih
  | k :: π, _, .dic true xs, s, _, .dT (p := p) (kvs := vs) (f := f) a1 a2 a3, e, hk => by
    have e : (match xs[k]? with | some x => getO x.2 π | none => none) = some s := e
    cases hx : xs[k]? with
    | none => rw [hx] at e; cases e
    | some x =>
      obtain ⟨kd, x⟩ := x
      rw [hx] at e
      obtain ⟨key, u, f1, fk, f2, b1, b2, b3, _⟩ := a3.at hx
      subst b2
      have ih := loc_keep π b3 e fun q hq => hk q (List.mem_cons_of_mem _ (List.mem_append_right _ (List.mem_append_left _ hq)))
      show (match H2 p with | some (.lst vs) => _ | some (.dK vs) => _ | some (.dT vs) => (match vs[k]? with | some u => locV H2 u.2 π | none => none) | some (.ext φ) => (match (slV p φ)[k]? with | some u => locV H2 u π | none => none) | _ => none) = (match H p with | some (.lst vs) => _ | some (.dK vs) => _ | some (.dT vs) => (match vs[k]? with | some u => locV H u.2 π | none => none) | some (.ext φ) => (match (slV p φ)[k]? with | some u => locV H u π | none => none) | _ => none)
      rw [hk p List.mem_cons_self, a1]
      show (match vs[k]? with | some u => locV H2 u.2 π | none => none) = (match vs[k]? with | some u => locV H u.2 π | none => none)
      rw [b1]
      exact ih
/-- the place that was told, later: it is where it was, and what stands there may be changed -/
theorem StOk.place {i : Nat} {π : List Nat} {v0 v : V} {s : OD} {G2 H2 : Hp} (st : StOk K B H0 G H σ δ) (hs : getS δ i π = some s) (h0 : σ[i]? = some (some v0)) (hv : locV H v0 π = some v) (g : Gr K B G H G2 H2) :
    ∃ fs, Own K B G2 H2 v s fs ∧ fs.Nodup ∧ (∀ p ∈ fs, H0 p = none ∧ B.nb p) ∧ locV H2 v0 π = some v ∧
      ∀ p ho s' fs', p ∈ fs → Own K B G2 (upd H2 p ho) v s' fs' → fs'.Nodup → (∀ q ∈ fs', q ∈ fs) → StOk K B H0 G2 (upd H2 p ho) σ (putS δ i π s') := by
  obtain ⟨w, o, h1, h2⟩ := getS_at hs
  obtain ⟨F, y⟩ := st.ex
  obtain ⟨e1, e2, e3, e4⟩ := y.ow h1
  rw [h0] at e1
  cases e1
  have y2 := y.gr g
  obtain ⟨e1, c2, _, _⟩ := y2.ow h1
  obtain ⟨u, fs, a1, a2, a3, a4, a5⟩ := focus π c2 e3 h2
  have kp : ∀ p ∈ F i, H2 p = H p := fun p hp => by
    have n := e2.node p hp
    cases q : H p with
    | none => exact absurd q n.at.ne
    | some ob => exact g.keep p ob (e4 p hp).2 q
  have hl := loc_keep (H2 := H2) π e2 h2 kp
  rw [hl, hv] at a1
  cases a1
  refine ⟨fs, a2, a3, fun p hp => e4 p (a4 p hp), hl.trans hv, fun p ho s' fs' hp hw nd hf => ?_⟩
  obtain ⟨f', d1, d2, d3⟩ := a5 (Ex.refl G2) (fun q hq hn => ⟨upd_ne fun z => hn (z ▸ hp), rfl⟩) hw nd fun q hq => .inl (hf q hq)
  rw [putS_at h1]
  have all : ∀ q ∈ f', q ∈ F i := fun q hq => (d3 q hq).elim (fun z => a4 q (hf q z)) id
  have z := y2.put (i := i) (List.getElem?_eq_some_iff.mp e1).1 (Ex.refl G2) (H2 := upd H2 p ho) (fun q _ _ hq => ⟨upd_ne fun e => hq (e ▸ a4 p hp), rfl⟩) (.ow d1 d2 fun q hq => e4 q (all q hq)) fun q hq => .inr (all q hq)
  rw [set_same e1] at z
  exact ⟨_, z⟩
end
section
variable {X : Cx} {B : Bx} {e o i : Expr} {r ri : DE} {ρ : DR} {pos : Pos}
def rVar (i : Nat) : DR := fun δ Q => ownO δ[i]? fun _ _ => Q i []
theorem pr_var {k : Nat} (h : PE X e (tVar k)) : PR X B e (rVar k) := pe_mono h fun σ H P q => by
  obtain ⟨H0, G, δ, Q, j, st, hr, kk⟩ := q
  have hr : ownO δ[k]? fun _ _ => Q k [] := hr
  unfold ownO at hr
  split at hr
  · rename_i v o h1
    obtain ⟨F, y⟩ := st.ex
    have e1 := (y.ow h1).1
    exact ⟨v, e1, kk k [] v v G H hr (Gr.refl j) e1 (by cases v <;> rfl)⟩
  · exact hr.elim
/-- x.append(e), at a place -/
def dAppR (ρ : DR) (r : DE) : DTS := fun W δ => ρ δ fun i π => lstAt δ i π fun xs => r δ fun d => xs.length < sizeLine ∧ W.nx (putS δ i π (.lst (xs ++ [.sh d])))
theorem psd_appR {apos cpos : Pos} (ho : PR X B o ρ) (he : PD X B e r)
    (hbase : attributeBase o "append" X.env (eval o X.env) = eval o X.env := by rfl)
    (hfew : ((backTo cpos (starEach [e] X.env)).all (fun x => !x.1) && (backToKw cpos (keywordEach [] X.env)).all (fun x => x.1.isSome) && decide ([e].length + ([] : List Keyword).length + (if ([] : List Keyword).isEmpty then 0 else 1) < 30)) = true := by rfl)
    (hline : (apos.endLine == cpos.line) = true := by rfl) (hs : starEach [e] X.env = (false, eval e X.env) :: starEach [] X.env := by rfl) (hplain : (backTo cpos (starEach [] X.env)).any (·.1) = false := by rfl)
    (hsw : swapsWith (.Call (.Attribute o "append" apos) [e] [] cpos) none pos.line X.env = pure false := by rfl) :
    PSD X B (.Expr (.Call (.Attribute o "append" apos) [e] [] cpos) pos) (dAppR ρ r) := ps_mono (ps_expr (pe_bm PySem.F.plainAttrs_list PySem.F.slot_list_append PySem.F.type_list_append mt_append ho (pa_cons he pa_nil hs) hbase hfew hline hs hplain) hsw) fun E σ H q => by
  obtain ⟨G0, H0, G, δ, W, g0, st, h, k⟩ := q
  refine ⟨H0, G, δ, _, g0.j, st, h, fun i π v0 v G2 H2 q2 g2 h0 hv => ?_⟩
  obtain ⟨xs, hx, q2⟩ := lstAt_at q2
  obtain ⟨_, a1, _⟩ := (st.gr g2).place hx h0 hv (Gr.refl g2.j)
  cases a1 with
  | @lst p vs _ f b1 b2 b3 =>
    refine ⟨.inl ⟨rfl, vs, sq_of b1⟩, H0, G2, δ, _, g2.j, st.gr g2, q2, fun d u G3 H3 q3 g3 h3 => ?_⟩
    obtain ⟨fs, c1, c2, c3, _, c5⟩ := (st.gr g2).place hx h0 hv g3
    cases c1 with
    | @lst _ vs' _ f' d1 d2 d3 =>
      refine ⟨p, vs', u, rfl, rfl, d1, by rw [d3.len]; exact q3.1, ?_⟩
      have hp := c3 p List.mem_cons_self
      have np := (List.nodup_cons.mp c2).1
      refine k.nx _ _ _ _ q3.2 (((g0.trans g2).trans g3).own hp.1 d2 hp.2) (g2.ex.trans g3.ex) (c5 p _ _ (p :: f') List.mem_cons_self (.lst upd_same d2 ?_) c2 fun q hq => hq)
      have c4 := (d3.past (ho := .lst (vs' ++ [u])) np).append (Owns.cons (H := upd H3 p (.lst (vs' ++ [u]))) (.sh h3) .nil)
      rw [List.append_nil, List.append_nil] at c4
      exact c4
end
end DL
namespace DL
open PySem PySem.Spec PyProof.Rows L2 Evl
section
variable {X : Cx} {B : Bx} {e o a b c : Expr} {es : List Expr} {r ra rb : DE} {pos : Pos} {C k k' i : Nat} {S : FO} {rA : DA} {rao : OA} {m : Str} {g : Addr}
def slotOf (v : V) : OD → SD
  | .sh d => .sh d
  | o => .ow v o
theorem st_setF {K : PySem.W.Frag} {H0 G H : Hp} {σ : L2.St} {δ : DS} {i : Nat} {v : V} {o : OD} {f : List Addr} {F : Nat → List Addr} (y : StF K B H0 G H σ δ F) (hw : Own K B G H v o f) (nd : f.Nodup) (hf : ∀ p ∈ f, H0 p = none ∧ B.nb p) (new : ∀ j, j < σ.length → ∀ p ∈ f, p ∉ F j) :
    ∃ F', StF K B H0 G H (σ.set i (some v)) (δ.set i (some (slotOf v o))) F' ∧ ∀ j, j < σ.length → ∀ p ∈ F' j, p ∈ f ∨ p ∈ F j := by
  have key : SlotOk K B H0 G H (some v) (some (slotOf v o)) f := by
    cases o with
    | sh d => cases hw with | sh h => exact .sh h
    | lst xs => exact .ow hw nd hf
    | dic t ks => exact .ow hw nd hf
    | obj C xs => exact .ow hw nd hf
  by_cases hi : i < σ.length
  · refine ⟨fun j => if j = i then f else F j, ⟨by rw [List.length_set, List.length_set]; exact y.len, fun j uv ud h1 h2 => ?_, fun a b ha hb hab p hp hq => ?_⟩, fun j _ p hp => ?_⟩
    · by_cases hj : i = j
      · subst hj
        rw [List.getElem?_set_self hi] at h1
        rw [List.getElem?_set_self (by rw [← y.len]; exact hi)] at h2
        cases h1
        cases h2
        rw [if_pos rfl]
        exact key
      · rw [List.getElem?_set_ne hj] at h1 h2
        rw [if_neg (Ne.symm hj)]
        exact y.at_ j uv ud h1 h2
    · rw [List.length_set] at ha hb
      by_cases h1 : a = i
      · rw [if_pos h1] at hp
        rw [if_neg fun z => hab (h1.trans z.symm)] at hq
        exact new b hb p hp hq
      · rw [if_neg h1] at hp
        by_cases h2 : b = i
        · rw [if_pos h2] at hq
          exact new a ha p hq hp
        · rw [if_neg h2] at hq
          exact y.dj a b ha hb hab p hp hq
    · have hp : p ∈ (if j = i then f else F j) := hp
      by_cases h : j = i
      · rw [if_pos h] at hp; exact .inl hp
      · rw [if_neg h] at hp; exact .inr hp
  · rw [set_out hi, set_out (by rw [← y.len]; exact hi)]
    exact ⟨F, y, fun j _ p hp => .inr hp⟩
theorem fresh_new {K : PySem.W.Frag} {H0 G H G2 H2 : Hp} {σ : L2.St} {δ : DS} {F : Nat → List Addr} {f : List Addr} (y : StF K B H0 G H σ δ F) (hf : Fresh B H f) : ∀ j, j < σ.length → ∀ p ∈ f, p ∉ F j := fun j hj p hp hq => by
  obtain ⟨ud, hud⟩ : ∃ ud, δ[j]? = some ud := ⟨δ[j]'(by rw [← y.len]; exact hj), List.getElem?_eq_getElem _⟩
  obtain ⟨uv, huv, q⟩ := y.get hud
  exact (q.at p hq).1.ne (hf.2 p hp).1
def dPar2 (i j : Nat) (ra : OA) : DTS := fun W δ => ra δ fun os => match os with
  | [x, y] => ∀ u v, W.nx ((δ.set i (some (slotOf u x))).set j (some (slotOf v y)))
  | _ => False
theorem psd_par2 {i j : Nat} {x y : Str} {px py pt : Pos} {kt k2 pt2} (hc : X.calm = true) (hN : X.N.Nodup) (hi : X.N[i]? = some x) (hj : X.N[j]? = some y) (hij : i ≠ j)
    (hx : X.env.scope.names.lookup x = some .local) (hy : X.env.scope.names.lookup y = some .local) (ha : PAO X B [a, b] rao)
    (hw : swappedStores [.Tuple [.Name x px, .Name y py] kt pt] (.Tuple [a, b] k2 pt2) X.env = pure (some [x, y]))
    (hs : swapsWithSole [.Tuple [.Name x px, .Name y py] kt pt] (.Tuple [a, b] k2 pt2) pos.line X.env = pure false := by rfl) :
    PSD X B (.Assign [.Tuple [.Name x px, .Name y py] kt pt] (.Tuple [a, b] k2 pt2) pos) (dPar2 i j rao) := ps_mono (ps_par hc hN hi hj hij hx hy ha hw hs) fun E σ H q => by
  obtain ⟨G0, H0, G, δ, W, g, s, h, k⟩ := q
  refine ⟨H0, G, δ, _, g.j, s, h, fun os vs f G2 H2 q2 g2 h2 f2 => ?_⟩
  cases h2 with
  | nil => exact q2.elim
  | @cons v1 o1 f1 _ _ _ h3 h4 =>
    cases h4 with
    | nil => exact q2.elim
    | @cons v2 o2 f2' _ _ _ h5 h6 =>
      cases h6 with
      | cons _ _ => exact q2.elim
      | nil =>
        have q2 : ∀ u v, W.nx ((δ.set i (some (slotOf u o1))).set j (some (slotOf v o2))) := q2
        rw [List.append_nil] at f2
        obtain ⟨n1, n2, n3⟩ := List.nodup_append.mp f2.1
        have a1 : ∀ p ∈ f1, H0 p = none ∧ B.nb p := fun p hp => (f2.back g).2 p (List.mem_append_left _ hp)
        have a2 : ∀ p ∈ f2', H0 p = none ∧ B.nb p := fun p hp => (f2.back g).2 p (List.mem_append_right _ hp)
        obtain ⟨F, y0⟩ := s.ex
        have y2 := y0.gr g2
        have nw := fresh_new (G2 := G2) (H2 := H2) y0 f2
        obtain ⟨F1, y3, s3⟩ := st_setF (i := i) y2 h3 n1 a1 fun l hl p hp => nw l hl p (List.mem_append_left _ hp)
        obtain ⟨F2, y4, _⟩ := st_setF (i := j) y3 h5 n2 a2 fun l hl p hp hq => by
          rw [List.length_set] at hl
          rcases s3 l hl p hq with z | z
          · exact n3 p z p hp rfl
          · exact nw l hl p (List.mem_append_right _ hp) z
        exact ⟨_, _, rfl, k.nx _ _ G2 H2 (q2 v1 v2) (g.trans g2) g2.ex ⟨F2, y4⟩⟩
def dPar3 (i j l : Nat) (ra : OA) : DTS := fun W δ => ra δ fun os => match os with
  | [x, y, z] => ∀ u v w, W.nx (((δ.set i (some (slotOf u x))).set j (some (slotOf v y))).set l (some (slotOf w z)))
  | _ => False
theorem psd_par3 {i j l : Nat} {x y z : Str} {px py pz pt : Pos} {kt k2 pt2} (hc : X.calm = true) (hN : X.N.Nodup) (hi : X.N[i]? = some x) (hj : X.N[j]? = some y) (hl : X.N[l]? = some z) (hij : i ≠ j) (hil : i ≠ l) (hjl : j ≠ l)
    (hx : X.env.scope.names.lookup x = some .local) (hy : X.env.scope.names.lookup y = some .local) (hz : X.env.scope.names.lookup z = some .local) (ha : PAO X B [a, b, c] rao)
    (hw : swappedStores [.Tuple [.Name x px, .Name y py, .Name z pz] kt pt] (.Tuple [a, b, c] k2 pt2) X.env = pure (some [x, y, z]))
    (hs : swapsWithSole [.Tuple [.Name x px, .Name y py, .Name z pz] kt pt] (.Tuple [a, b, c] k2 pt2) pos.line X.env = pure false := by rfl) :
    PSD X B (.Assign [.Tuple [.Name x px, .Name y py, .Name z pz] kt pt] (.Tuple [a, b, c] k2 pt2) pos) (dPar3 i j l rao) := ps_mono (ps_par3 hc hN hi hj hl hij hil hjl hx hy hz ha hw hs) fun E σ H q => by
  obtain ⟨G0, H0, G, δ, W, g, s, h, k⟩ := q
  refine ⟨H0, G, δ, _, g.j, s, h, fun os vs f G2 H2 q2 g2 h2 f2 => ?_⟩
  cases h2 with
  | nil => exact q2.elim
  | @cons v1 o1 f1 _ _ _ h3 h4 =>
    cases h4 with
    | nil => exact q2.elim
    | @cons v2 o2 f2' _ _ _ h5 h6 =>
      cases h6 with
      | nil => exact q2.elim
      | @cons v3 o3 f3' _ _ _ h7 h8 =>
        cases h8 with
        | cons _ _ => exact q2.elim
        | nil =>
          have q2 : ∀ u v w, W.nx (((δ.set i (some (slotOf u o1))).set j (some (slotOf v o2))).set l (some (slotOf w o3))) := q2
          rw [List.append_nil] at f2
          obtain ⟨n1, n2, n3⟩ := List.nodup_append.mp f2.1
          obtain ⟨m1, m2, m3⟩ := List.nodup_append.mp n2
          have a1 : ∀ p ∈ f1, H0 p = none ∧ B.nb p := fun p hp => (f2.back g).2 p (List.mem_append_left _ hp)
          have a2 : ∀ p ∈ f2', H0 p = none ∧ B.nb p := fun p hp => (f2.back g).2 p (List.mem_append_right _ (List.mem_append_left _ hp))
          have a3 : ∀ p ∈ f3', H0 p = none ∧ B.nb p := fun p hp => (f2.back g).2 p (List.mem_append_right _ (List.mem_append_right _ hp))
          obtain ⟨F, y0⟩ := s.ex
          have y2 := y0.gr g2
          have nw := fresh_new (G2 := G2) (H2 := H2) y0 f2
          obtain ⟨F1, y3, s3⟩ := st_setF (i := i) y2 h3 n1 a1 fun l hl p hp => nw l hl p (List.mem_append_left _ hp)
          have y3b : ∀ l, l < (σ.set i (some v1)).length → l < σ.length := fun l hl => by rw [List.length_set] at hl; exact hl
          obtain ⟨F2, y4, s4⟩ := st_setF (i := j) y3 h5 m1 a2 fun l hl p hp hq => by
            rcases s3 l (y3b l hl) p hq with z | z
            · exact n3 p z p (List.mem_append_left _ hp) rfl
            · exact nw l (y3b l hl) p (List.mem_append_right _ (List.mem_append_left _ hp)) z
          obtain ⟨F3, y5, _⟩ := st_setF (i := l) y4 h7 m2 a3 fun l hl p hp hq => by
            rw [List.length_set] at hl
            rcases s4 l hl p hq with z | z
            · exact m3 p z p hp rfl
            · rcases s3 l (y3b l hl) p z with z | z
              · exact n3 p z p (List.mem_append_right _ hp) rfl
              · exact nw l (y3b l hl) p (List.mem_append_right _ (List.mem_append_right _ hp)) z
          exact ⟨_, _, _, rfl, k.nx _ _ G2 H2 (q2 v1 v2 v3) (g.trans g2) g2.ex ⟨F3, y5⟩⟩
end
end DL
namespace DL
open PySem PySem.Spec PyProof.Rows L2 Evl
def dk1 : D → Option Key
  | .int i => some (.inl i)
  | .str x => some (.inr x)
  | _ => none
def dkL : List D → Option (List Key)
  | [] => some []
  | d :: ds => match dk1 d, dkL ds with
    | some k, some ks => some (k :: ks)
    | _, _ => none
def dkT : D → Option (List Key)
  | .tup ds => dkL ds
  | _ => none
theorem dk1_emb (k : Key) : dk1 (embK k) = some k := by cases k <;> rfl
theorem dkL_emb : ∀ k : List Key, dkL (k.map embK) = some k
  | [] => rfl
  | a :: k => by rw [List.map_cons, dkL, dk1_emb, dkL_emb k]
theorem dkT_emb (k : List Key) : dkT (embT k) = some k := dkL_emb k
theorem emb_dk1 {d : D} {k : Key} (h : dk1 d = some k) : d = embK k := by
  cases d with
  | int i => cases h; rfl
  | str x => cases h; rfl
  | _ => cases h
theorem emb_dkL : ∀ {ds : List D} {k : List Key}, dkL ds = some k → ds = k.map embK
  | [], _, h => by cases h; rfl
  | d :: ds, k, h => by
    unfold dkL at h
    cases h1 : dk1 d with
    | none => rw [h1] at h; cases h
    | some a =>
      cases h2 : dkL ds with
      | none => rw [h1, h2] at h; cases h
      | some b =>
        rw [h1, h2] at h
        cases h
        rw [List.map_cons, ← emb_dk1 h1, ← emb_dkL h2]
theorem emb_dkT {d : D} {k : List Key} (h : dkT d = some k) : d = embT k := by
  cases d with
  | tup ds => exact congrArg D.tup (emb_dkL h)
  | _ => cases h
/-- two keys are one -/
def keqD (x y : D) : Bool := match dk1 x, dk1 y with
  | some a, some b => decide (a = b)
  | _, _ => match dkT x, dkT y with
    | some a, some b => decide (a = b)
    | _, _ => false
theorem keqD_K (a b : Key) : keqD (embK a) (embK b) = decide (a = b) := by unfold keqD; rw [dk1_emb, dk1_emb]
theorem keqD_T (a b : List Key) : keqD (embT a) (embT b) = decide (a = b) := by
  unfold keqD
  have h1 : dk1 (embT a) = none := rfl
  rw [h1, dkT_emb, dkT_emb]
def lookK {α : Type} (ks : List (D × α)) (y : D) : Option α := (ks.find? fun kv => keqD kv.1 y).map (·.2)
def putO {α : Type} (ks : List (D × α)) (y : D) (o : α) : List (D × α) := if (ks.any fun z => keqD z.1 y) = true then ks.map (fun z => if keqD z.1 y = true then (z.1, o) else z) else ks ++ [(y, o)]
def keyFit (t : Bool) (y : D) : Bool := if t then (dkT y).isSome else (dk1 y).isSome
section
variable {K : PySem.W.Frag} {B : Bx} {G H : Hp}
theorem keyV {v : V} {y : D} (h : Dat K B G v y) {k : Key} (e : dk1 y = some k) : v = kV k := by
  cases h with
  | int i => cases e; rfl
  | str x => cases e; rfl
  | _ => cases e
theorem keyVs : ∀ {vs : List V} {ds : List D} {k : List Key}, Dats K B G vs ds → dkL ds = some k → vs = k.map kV
  | _, _, _, .nil, e => by cases e; rfl
  | _, _, k, .cons (d := d) (ds := ds) h t, e => by
    unfold dkL at e
    cases h1 : dk1 d with
    | none => rw [h1] at e; cases e
    | some a =>
      cases h2 : dkL ds with
      | none => rw [h1, h2] at e; cases e
      | some b =>
        rw [h1, h2] at e
        cases e
        rw [List.map_cons, keyV h h1, keyVs t h2]
theorem keyT {v : V} {y : D} (h : Dat K B G v y) {k : List Key} (e : dkT y = some k) : ∃ b, v = .ref b ∧ G b = some (.tup (k.map kV)) := by
  cases h with
  | tup h1 h2 => exact ⟨_, rfl, by rw [h1, keyVs h2 e]⟩
  | _ => cases e
theorem OwnK.any {k : Key} : ∀ {vs : List (Key × V)} {xs : List (D × OD)} {f : List Addr}, OwnK K B G H vs xs f → (vs.any fun kv => decide (kv.1 = k)) = xs.any fun z => keqD z.1 (embK k)
  | _, _, _, .nil => rfl
  | _, _, _, .consI (i := i) _ t => by rw [List.any_cons, List.any_cons, OwnK.any t, show (D.int i) = embK (.inl i) from rfl, keqD_K]
  | _, _, _, .consS (x := i) _ t => by rw [List.any_cons, List.any_cons, OwnK.any t, show (D.str i) = embK (.inr i) from rfl, keqD_K]
theorem OwnT.any {k : List Key} : ∀ {vs : List (List Key × V)} {xs : List (D × OD)} {f : List Addr}, OwnT K B G H vs xs f → (vs.any fun kv => decide (kv.1 = k)) = xs.any fun z => keqD z.1 (embT k)
  | _, _, _, .nil => rfl
  | _, _, _, .cons (k := i) _ t => by rw [List.any_cons, List.any_cons, OwnT.any t]; exact congrArg (· || _) (keqD_T i k).symm
theorem nodup_sub {f g f' g' : List Addr} (nd : (f ++ g).Nodup) (n1 : f'.Nodup) (n2 : g'.Nodup) (h1 : ∀ p ∈ f', p ∈ f) (h2 : ∀ p ∈ g', p ∈ g) : (f' ++ g').Nodup := by
  obtain ⟨_, _, h⟩ := List.nodup_append.mp nd
  exact List.nodup_append.mpr ⟨n1, n2, fun a ha b hb => h a (h1 a ha) b (h2 b hb)⟩
theorem OwnK.repl {k : Key} {v : V} {d : D} {H2 : Hp} (hd : Dat K B G v d) : ∀ {vs : List (Key × V)} {xs : List (D × OD)} {f : List Addr}, OwnK K B G H vs xs f → f.Nodup → Kept G H G H2 f → ∃ f', OwnK K B G H2 (vs.map fun kv => if kv.1 = k then (kv.1, v) else kv) (xs.map fun z => if keqD z.1 (embK k) = true then (z.1, .sh d) else z) f' ∧ f'.Nodup ∧ ∀ p ∈ f', p ∈ f
  | _, _, _, .nil, _, _ => ⟨[], .nil, List.nodup_nil, fun _ h => h⟩
  | _, _, _, .consI (i := i) (v := w) (o := o) (f := f) (g := g) h t, nd, kp => by
    obtain ⟨nf, ng, _⟩ := List.nodup_append.mp nd
    obtain ⟨g', a1, a2, a3⟩ := OwnK.repl hd t ng kp.r
    have e := keqD_K (.inl i) k
    by_cases hk : (Sum.inl i : Key) = k
    · refine ⟨[] ++ g', ?_, a2, fun p hp => List.mem_append_right _ (a3 p hp)⟩
      rw [List.map_cons, List.map_cons, if_pos hk, if_pos (show keqD (D.int i) (embK k) = true from e.trans (decide_eq_true hk))]
      exact .consI (.sh hd) a1
    · refine ⟨f ++ g', ?_, nodup_sub nd nf a2 (fun _ h => h) a3, fun p hp => (List.mem_append.mp hp).elim (List.mem_append_left _) fun z => List.mem_append_right _ (a3 p z)⟩
      rw [List.map_cons, List.map_cons, if_neg hk, if_neg (show ¬ keqD (D.int i) (embK k) = true by rw [show (D.int i) = embK (.inl i) from rfl, e, decide_eq_false hk]; exact Bool.false_ne_true)]
      exact .consI (h.keep (Ex.refl G) kp.l) a1
  | _, _, _, .consS (x := i) (v := w) (o := o) (f := f) (g := g) h t, nd, kp => by
    obtain ⟨nf, ng, _⟩ := List.nodup_append.mp nd
    obtain ⟨g', a1, a2, a3⟩ := OwnK.repl hd t ng kp.r
    have e := keqD_K (.inr i) k
    by_cases hk : (Sum.inr i : Key) = k
    · refine ⟨[] ++ g', ?_, a2, fun p hp => List.mem_append_right _ (a3 p hp)⟩
      rw [List.map_cons, List.map_cons, if_pos hk, if_pos (show keqD (D.str i) (embK k) = true from e.trans (decide_eq_true hk))]
      exact .consS (.sh hd) a1
    · refine ⟨f ++ g', ?_, nodup_sub nd nf a2 (fun _ h => h) a3, fun p hp => (List.mem_append.mp hp).elim (List.mem_append_left _) fun z => List.mem_append_right _ (a3 p z)⟩
      rw [List.map_cons, List.map_cons, if_neg hk, if_neg (show ¬ keqD (D.str i) (embK k) = true by rw [show (D.str i) = embK (.inr i) from rfl, e, decide_eq_false hk]; exact Bool.false_ne_true)]
      exact .consS (h.keep (Ex.refl G) kp.l) a1
theorem OwnT.repl {k : List Key} {v : V} {d : D} {H2 : Hp} (hd : Dat K B G v d) : ∀ {vs : List (List Key × V)} {xs : List (D × OD)} {f : List Addr}, OwnT K B G H vs xs f → f.Nodup → Kept G H G H2 f → ∃ f', OwnT K B G H2 (vs.map fun kv => if kv.1 = k then (kv.1, v) else kv) (xs.map fun z => if keqD z.1 (embT k) = true then (z.1, .sh d) else z) f' ∧ f'.Nodup ∧ ∀ p ∈ f', p ∈ f
  | _, _, _, .nil, _, _ => ⟨[], .nil, List.nodup_nil, fun _ h => h⟩
  | _, _, _, .cons (k := i) (v := w) (o := o) (f := f) (g := g) h t, nd, kp => by
    obtain ⟨nf, ng, _⟩ := List.nodup_append.mp nd
    obtain ⟨g', a1, a2, a3⟩ := OwnT.repl hd t ng kp.r
    have e := keqD_T i k
    by_cases hk : i = k
    · refine ⟨[] ++ g', ?_, a2, fun p hp => List.mem_append_right _ (a3 p hp)⟩
      rw [List.map_cons, List.map_cons, if_pos hk, if_pos (show keqD (embT i) (embT k) = true from e.trans (decide_eq_true hk))]
      exact .cons (.sh hd) a1
    · refine ⟨f ++ g', ?_, nodup_sub nd nf a2 (fun _ h => h) a3, fun p hp => (List.mem_append.mp hp).elim (List.mem_append_left _) fun z => List.mem_append_right _ (a3 p z)⟩
      rw [List.map_cons, List.map_cons, if_neg hk, if_neg (show ¬ keqD (embT i) (embT k) = true by rw [e, decide_eq_false hk]; exact Bool.false_ne_true)]
      exact .cons (h.keep (Ex.refl G) kp.l) a1
theorem OwnK.snoc {k : Key} {v : V} {o : OD} {g : List Addr} (hd : Own K B G H v o g) : ∀ {vs : List (Key × V)} {xs : List (D × OD)} {f : List Addr}, OwnK K B G H vs xs f → OwnK K B G H (vs ++ [(k, v)]) (xs ++ [(embK k, o)]) (f ++ g)
  | _, _, _, .nil => by
    show OwnK K B G H [(k, v)] [(embK k, o)] g
    cases k with
    | inl i => exact (List.append_nil g) ▸ (OwnK.consI hd .nil)
    | inr i => exact (List.append_nil g) ▸ (OwnK.consS hd .nil)
  | _, _, _, .consI h t => by rw [List.append_assoc]; exact .consI h (OwnK.snoc hd t)
  | _, _, _, .consS h t => by rw [List.append_assoc]; exact .consS h (OwnK.snoc hd t)
theorem OwnT.snoc {k : List Key} {v : V} {o : OD} {g : List Addr} (hd : Own K B G H v o g) : ∀ {vs : List (List Key × V)} {xs : List (D × OD)} {f : List Addr}, OwnT K B G H vs xs f → OwnT K B G H (vs ++ [(k, v)]) (xs ++ [(embT k, o)]) (f ++ g)
  | _, _, _, .nil => by
    show OwnT K B G H [(k, v)] [(embT k, o)] g
    exact (List.append_nil g) ▸ (OwnT.cons hd .nil)
  | _, _, _, .cons h t => by rw [List.append_assoc]; exact .cons h (OwnT.snoc hd t)
theorem OwnK.len : ∀ {vs : List (Key × V)} {xs : List (D × OD)} {f : List Addr}, OwnK K B G H vs xs f → vs.length = xs.length
  | _, _, _, .nil => rfl
  | _, _, _, .consI _ t => by rw [List.length_cons, List.length_cons, OwnK.len t]
  | _, _, _, .consS _ t => by rw [List.length_cons, List.length_cons, OwnK.len t]
theorem OwnT.len : ∀ {vs : List (List Key × V)} {xs : List (D × OD)} {f : List Addr}, OwnT K B G H vs xs f → vs.length = xs.length
  | _, _, _, .nil => rfl
  | _, _, _, .cons _ t => by rw [List.length_cons, List.length_cons, OwnT.len t]
/-- d[y] = v, of a dict of one's own -/
theorem Own.dput {p : Addr} {t : Bool} {ks : List (D × OD)} {fs : List Addr} {u w : V} {y d : D} (h : Own K B G H (.ref p) (.dic t ks) fs) (nd : fs.Nodup) (jex : Ex G H) (hy : Dat K B G u y) (hd : Dat K B G w d) (hk : keyFit t y = true) (hz : ks.length < sizeLine) :
    ∃ ho fs', DPut H p u w (upd H p ho) ∧ p ∈ fs ∧ Own K B G (upd H p ho) (.ref p) (.dic t (putO ks y (.sh d))) fs' ∧ fs'.Nodup ∧ ∀ q ∈ fs', q ∈ fs := by
  cases h with
  | @dK _ kvs _ f h1 h2 h3 =>
    obtain ⟨n0, n1⟩ := List.nodup_cons.mp nd
    have hk : (dk1 y).isSome = true := hk
    obtain ⟨k, ek⟩ := Option.isSome_iff_exists.mp hk
    have eu := keyV hy ek
    have ey := emb_dk1 ek
    subst eu ey
    have kp : ∀ ho, Kept G H G (upd H p ho) f := fun ho q hq => ⟨upd_ne fun e => n0 (e ▸ hq), rfl⟩
    have an := OwnK.any (k := k) h3
    refine ⟨.dK (putK kvs k w), ?_⟩
    by_cases ha : (ks.any fun z => keqD z.1 (embK k)) = true
    · obtain ⟨f', a1, a2, a3⟩ := h3.repl (k := k) hd n1 (kp (.dK (putK kvs k w)))
      refine ⟨p :: f', DPut.k h1 (by rw [h3.len]; exact hz), List.mem_cons_self, .dK upd_same h2 ?_, List.nodup_cons.mpr ⟨fun z => n0 (a3 p z), a2⟩, fun q hq => (List.mem_cons.mp hq).elim (fun e => e ▸ List.mem_cons_self) fun z => List.mem_cons_of_mem _ (a3 q z)⟩
      unfold putK putO
      rw [if_pos ha, if_pos (an.trans ha)]
      unfold putK at a1
      rw [if_pos (an.trans ha)] at a1
      exact a1
    · refine ⟨p :: f, DPut.k h1 (by rw [h3.len]; exact hz), List.mem_cons_self, .dK upd_same h2 ?_, nd, fun q hq => hq⟩
      have z := OwnK.snoc (k := k) (o := .sh d) (.sh hd) (h3.keep (Ex.refl G) (kp (.dK (putK kvs k w))))
      rw [List.append_nil] at z
      unfold putK putO
      rw [if_neg ha, if_neg (by rw [an]; exact ha)]
      unfold putK at z
      rw [if_neg (by rw [an]; exact ha)] at z
      exact z
  | @dT _ kvs _ f h1 h2 h3 =>
    obtain ⟨n0, n1⟩ := List.nodup_cons.mp nd
    have hk : (dkT y).isSome = true := hk
    obtain ⟨k, ek⟩ := Option.isSome_iff_exists.mp hk
    obtain ⟨b, eu, eb⟩ := keyT hy ek
    have ey := emb_dkT ek
    subst eu ey
    have hb := jex _ _ eb
    have kp : ∀ ho, Kept G H G (upd H p ho) f := fun ho q hq => ⟨upd_ne fun e => n0 (e ▸ hq), rfl⟩
    have an := OwnT.any (k := k) h3
    have put : DPut H p (.ref b) w (upd H p (.dT (putK kvs k w))) := .inr ⟨kvs, k, b, h1, rfl, hb, by rw [h3.len]; exact hz, rfl⟩
    refine ⟨.dT (putK kvs k w), ?_⟩
    by_cases ha : (ks.any fun z => keqD z.1 (embT k)) = true
    · obtain ⟨f', a1, a2, a3⟩ := h3.repl (k := k) hd n1 (kp (.dT (putK kvs k w)))
      refine ⟨p :: f', put, List.mem_cons_self, .dT upd_same h2 ?_, List.nodup_cons.mpr ⟨fun z => n0 (a3 p z), a2⟩, fun q hq => (List.mem_cons.mp hq).elim (fun e => e ▸ List.mem_cons_self) fun z => List.mem_cons_of_mem _ (a3 q z)⟩
      unfold putK putO
      rw [if_pos ha, if_pos (an.trans ha)]
      unfold putK at a1
      rw [if_pos (an.trans ha)] at a1
      exact a1
    · refine ⟨p :: f, put, List.mem_cons_self, .dT upd_same h2 ?_, nd, fun q hq => hq⟩
      have z := OwnT.snoc (k := k) (o := .sh d) (.sh hd) (h3.keep (Ex.refl G) (kp (.dT (putK kvs k w))))
      rw [List.append_nil] at z
      unfold putK putO
      rw [if_neg ha, if_neg (by rw [an]; exact ha)]
      unfold putK at z
      rw [if_neg (by rw [an]; exact ha)] at z
      exact z
end
section
variable {X : Cx} {B : Bx} {e o i : Expr} {r ry : DE} {ρ : DR} {pos : Pos}
theorem dput_tb {H : Hp} {p : Addr} {y v : V} {o : HO} (d : DPut H p y v (upd H p o)) : noTb o = true := by
  rcases d with ⟨kvs, k, _, _, _, e⟩ | ⟨kvs, k, b, _, _, _, _, e⟩ <;>
  · have z := congrFun e p
    rw [upd_same, upd_same] at z
    cases z
    rfl
/-- x[k] = e, a dict at a place -/
def dDPutR (ρ : DR) (ry r : DE) : DTS := fun W δ => r δ fun d => ρ δ fun i π => ry δ fun y => dicAt δ i π fun t ks => (keyFit t y = true ∧ ks.length < sizeLine) ∧ W.nx (putS δ i π (.dic t (putO ks y (.sh d))))
theorem psd_dputR {spos : Pos} (hu : X.A.units + 1 < cLine) (ho : PR X B o ρ) (hi : PD X B i ry) (he : PD X B e r) (hs : swapsWith e (some (.Subscript o i spos)) pos.line X.env = pure false := by rfl) :
    PSD X B (.Assign [.Subscript o i spos] e pos) (dDPutR ρ ry r) := ps_mono (ps_dput hu ho hi he hs) fun E σ H q => by
  obtain ⟨G0, H0, G, δ, W, g0, st, h, k⟩ := q
  refine ⟨H0, G, δ, _, g0.j, st, h, fun d w G2 H2 q2 g2 h2 => ?_⟩
  refine ⟨H0, G2, δ, _, g2.j, st.gr g2, q2, fun i π v0 v G3 H3 q3 g3 h0 hv => ?_⟩
  refine ⟨H0, G3, δ, _, g3.j, (st.gr g2).gr g3, q3, fun y u G4 H4 q4 g4 h4 => ?_⟩
  obtain ⟨t, ks, hx, ⟨kf, kz⟩, q4⟩ := dicAt_at q4
  obtain ⟨fs, c1, c2, c3, _, c5⟩ := ((st.gr g2).gr g3).place hx h0 hv g4
  have hr : ∃ p, v = .ref p := by cases c1 <;> exact ⟨_, rfl⟩
  obtain ⟨p, rfl⟩ := hr
  obtain ⟨hob, fs', d1, d2, d3, d4, d5⟩ := c1.dput c2 g4.j.ex h4 (h2.mono (g3.ex.trans g4.ex)) kf kz
  have hp := c3 p d2
  refine ⟨p, _, rfl, d1, ?_⟩
  exact k.nx _ _ _ _ q4 ((((g0.trans g2).trans g3).trans g4).own hp.1 (c1.node p d2).1 hp.2 (dput_tb d1)) ((g2.ex.trans g3.ex).trans g4.ex) (c5 p hob _ fs' d2 d3 d4 d5)
end
end DL
namespace DL
open PySem PySem.Spec PyProof.Rows L2 Evl
section
variable {δ : DS} {Q : D → Prop} {QO : OD → Prop} {QL : List D → Prop} {QOL : List OD → Prop} {QB : Bool → Prop} {QR : Nat → List Nat → Prop} {W : DEnds} {r ra rb ri : DE} {rA : DA} {ro rx ry rz : OE} {rao : OA} {S : FO} {ρ : DR} {i j l n C : Nat} {d : D} {ds xs ys : List D} {os : List OD} {o s : OD} {a b : Int} {π : List Nat} {v : V} {oo : Option SD} {ks : List Str} {t : Bool} {kvs : List (D × OD)}
theorem z_oD : oD r δ QO = r δ fun d => QO (.sh d) := propext Iff.rfl
theorem z_oF : oF rA δ QO = rA δ fun ds => QO (.lst (ds.map .sh)) := propext Iff.rfl
theorem z_oNil : oNil δ QOL = QOL [] := propext Iff.rfl
theorem z_oCons : oCons ro rao δ QOL = ro δ fun x => rao δ fun xs => QOL (x :: xs) := propext Iff.rfl
theorem z_oDic0 : oDic0 t δ QO = QO (.dic t []) := propext Iff.rfl
theorem z_dFz : dFz ro δ Q = ro δ fun o => Q o.toD := propext Iff.rfl
theorem z_setT : dSetT i ro W δ = ro δ fun o => ∀ v, W.nx (δ.set i (some (.ow v o))) := propext Iff.rfl
theorem z_retE : dRetE ro W δ = ro δ W.ro := propext Iff.rfl
theorem z_retO : dRetO i W δ = ownO δ[i]? fun _ o => W.ro o := propext Iff.rfl
theorem z_oCall : oCall S rA δ QO = rA δ fun ds => S ds QO := propext Iff.rfl
theorem z_par2 : dPar2 i j (oCons rx (oCons ry oNil)) W δ = rx δ fun x => ry δ fun y => ∀ u v, W.nx ((δ.set i (some (slotOf u x))).set j (some (slotOf v y))) := propext Iff.rfl
theorem z_par3 : dPar3 i j l (oCons rx (oCons ry (oCons rz oNil))) W δ = rx δ fun x => ry δ fun y => rz δ fun z => ∀ u v w, W.nx (((δ.set i (some (slotOf u x))).set j (some (slotOf v y))).set l (some (slotOf w z))) := propext Iff.rfl
theorem z_sOs : slotOf v (.sh d) = .sh d := rfl
theorem z_sOl : slotOf v (.lst os) = .ow v (.lst os) := rfl
theorem z_sOd : slotOf v (.dic t kvs) = .ow v (.dic t kvs) := rfl
theorem z_rVar : rVar i δ QR = ownO δ[i]? fun _ _ => QR i [] := propext Iff.rfl
theorem z_appR : dAppR ρ r W δ = ρ δ fun i π => lstAt δ i π fun xs => r δ fun d => xs.length < sizeLine ∧ W.nx (putS δ i π (.lst (xs ++ [.sh d]))) := propext Iff.rfl
theorem z_oI : oI (fun a b => .int (a + b)) (.int a) (.int b) Q = Q (.int (a + b)) := propext Iff.rfl
theorem z_dputR : dDPutR ρ ri r W δ = r δ fun d => ρ δ fun i π => ri δ fun y => dicAt δ i π fun t ks => (keyFit t y = true ∧ ks.length < sizeLine) ∧ W.nx (putS δ i π (.dic t (putO ks y (.sh d)))) := propext Iff.rfl
theorem z_lstA0 {K : List OD → Prop} : lstAt (some (.ow v (.lst os)) :: δ) 0 [] K = K os := propext Iff.rfl
theorem z_lstAS {K : List OD → Prop} : lstAt (oo :: δ) (i + 1) π K = lstAt δ i π K := by unfold lstAt getS; rw [List.getElem?_cons_succ]
theorem z_dicA0 {K : Bool → List (D × OD) → Prop} : dicAt (some (.ow v (.dic t kvs)) :: δ) 0 [] K = K t kvs := propext Iff.rfl
theorem z_dicAS {K : Bool → List (D × OD) → Prop} : dicAt (oo :: δ) (i + 1) π K = dicAt δ i π K := by unfold dicAt getS; rw [List.getElem?_cons_succ]
theorem z_putS0 : putS (some (.ow v o) :: δ) 0 π s = some (.ow v (setO o π s)) :: δ := rfl
theorem z_putSS : putS (oo :: δ) (i + 1) π s = oo :: putS δ i π s := by
  unfold putS
  rw [List.getElem?_cons_succ]
  split
  · rename_i h
    simp only [h, List.set_cons_succ]
  · rfl
theorem z_setO0 : setO o [] s = s := by cases o <;> rfl
theorem z_lstA1 {K : List OD → Prop} {os2 : List OD} {x : OD} : lstAt (some (.ow v (.lst (.lst os :: os2))) :: δ) 0 [0] K = K os := propext Iff.rfl
theorem z_lstA2 {K : List OD → Prop} {os2 : List OD} {x : OD} : lstAt (some (.ow v (.lst (x :: .lst os :: os2))) :: δ) 0 [1] K = K os := propext Iff.rfl
theorem z_setO1 {os2 : List OD} {x : OD} : setO (.lst (x :: os2)) [0] s = .lst (s :: os2) := by
  show OD.lst ((x :: os2).set 0 (setO x [] s)) = _
  rw [z_setO0]; rfl
theorem z_setO2 {os2 : List OD} {x y : OD} : setO (.lst (x :: y :: os2)) [1] s = .lst (x :: s :: os2) := by
  show OD.lst ((x :: y :: os2).set 1 (setO y [] s)) = _
  rw [z_setO0]; rfl
theorem z_toDs : OD.toD (.sh d) = d := by rw [OD.toD]
theorem z_toDl : OD.toD (.lst os) = .lst (toDs os) := by rw [OD.toD]
theorem z_toDd : OD.toD (.dic t kvs) = .dic (toDk kvs) := by rw [OD.toD]
end
end DL
namespace DL
open PySem PySem.Spec PyProof.Rows L2 Evl
end DL
namespace DL
open PySem PySem.Spec PyProof.Rows L2 Evl
end DL
namespace DL
open PySem PySem.Spec PyProof.Rows L2 Evl
section
variable {K : PySem.W.Frag} {B : Bx} {H0 G H : Hp} {σ : L2.St} {δ : DS} {p : Addr} {o : HO}
theorem StOk.up0 (x : StOk K B H0 G H σ δ) (hp : H p = none) : StOk K B (upd H0 p o) G H σ δ := by
  obtain ⟨F, y⟩ := x.ex
  refine ⟨F, y.len, fun i ov od h1 h2 => ?_, y.dj⟩
  have q := y.at_ i ov od h1 h2
  generalize F i = f at q
  have ne : ∀ b, H b ≠ none → H0 b = none → upd H0 p o b = none := fun b hb h0 => by
    rw [upd_ne fun z => hb (by rw [z]; exact hp)]
    exact h0
  have at_ := q.at
  cases q with
  | no => exact .no
  | sh h => exact .sh h
  | ow h n q => exact .ow h n fun b hb => ⟨ne b (at_ b hb).1.ne (q b hb).1, (q b hb).2⟩
  | @nw a dx C vs fs n =>
    exact .nw { n with hx := ne a (at_ a (by simp)).1.ne n.hx, hd := ne dx (at_ dx (by simp)).1.ne n.hd }
theorem StOk.past (x : StOk K B H0 G H σ δ) (hp : H0 p ≠ none) : StOk K B H0 G (upd H p o) σ δ := by
  obtain ⟨F, y⟩ := x.ex
  refine ⟨F, y.len, fun i ov od h1 h2 => ?_, y.dj⟩
  have q := y.at_ i ov od h1 h2
  exact q.keep (Ex.refl G) fun b hb => ⟨upd_ne fun z => hp (by rw [← z]; exact (q.at b hb).2.2.2), rfl⟩
end
end DL
namespace DL
open PySem PySem.Spec PyProof.Rows L2 Evl
theorem pyL_map : ∀ xs : List D, pyL xs = xs.map D.py
  | [] => by rw [pyL]; rfl
  | x :: xs => by rw [pyL, pyL_map xs]; rfl
end DL
namespace DL
open PySem PySem.Spec PyProof.Rows L2 Evl
def isNonD : D → Bool
  | .non => true
  | _ => false
def oIsN (n : Bool) : O2 := fun x y Q => match y with
  | .non => Q (.bl (if n then !isNonD x else isNonD x))
  | _ => False
theorem dat_non {K : PySem.W.Frag} {B : Bx} {G : Hp} {v : V} {d : D} (h : Dat K B G v d) : decide (v = .non) = isNonD d := by
  cases h <;> first | rfl | exact decide_eq_false (by intro z; cases z)
theorem op_isN_d {X : Cx} {B : Bx} : OpR X (compareOp .Is) (rLift X.K B (oIsN false)) := by
  intro pins s σ H x y v u P I rx ry q
  obtain ⟨G, dx, dy, Q, j, hx, hy, hq, k⟩ := q
  cases hy with
  | non =>
    refine op_isN pins s σ H _ _ v u P I rx ry ⟨rfl, ?_⟩
    rw [dat_non hx]
    exact k _ _ G H hq (Gr.refl j) (.bl _)
  | _ => exact hq.elim
theorem op_notN_d {X : Cx} {B : Bx} : OpR X (compareOp .IsNot) (rLift X.K B (oIsN true)) := by
  intro pins s σ H x y v u P I rx ry q
  obtain ⟨G, dx, dy, Q, j, hx, hy, hq, k⟩ := q
  cases hy with
  | non =>
    refine op_notN pins s σ H _ _ v u P I rx ry ⟨rfl, ?_⟩
    rw [dat_non hx]
    exact k _ _ G H hq (Gr.refl j) (.bl _)
  | _ => exact hq.elim
section
variable {Q : D → Prop} {x : D} {xs : List D} {fs : List D} {C : Nat}
theorem z_isN : oIsN false x .non Q = Q (.bl (isNonD x)) := propext Iff.rfl
theorem z_notN : oIsN true x .non Q = Q (.bl (!isNonD x)) := propext Iff.rfl
theorem z_nnN : isNonD .non = true := rfl
theorem z_nnT : isNonD (.tup xs) = false := rfl
theorem z_nnL : isNonD (.lst xs) = false := rfl
theorem z_nnO : isNonD (.obj C fs) = false := rfl
end
end DL
namespace DL
open PySem PySem.Spec PyProof.Rows L2 Evl
end DL
namespace DL
open PySem PySem.Spec PyProof.Rows L2 Evl
theorem zGd0 : (type_of% @z_isN) ∧ (type_of% @z_notN) ∧ (type_of% @z_var0) ∧ (type_of% @z_varS) ∧ (type_of% @z_slot) ∧ (type_of% @z_c) ∧ (type_of% @z_nil) ∧ (type_of% @z_cons) ∧ (type_of% @z_tup) ∧ (type_of% @z_lst) ∧ (type_of% @z_sz) ∧ (type_of% @z_f) ∧ (type_of% @z_op) ∧ (type_of% @z_un) ∧ (type_of% @z_tBl) ∧ (type_of% @z_bl) ∧ (type_of% @z_tNt) ∧ (type_of% @z_notT) ∧ (type_of% @z_notF) ∧ (type_of% @z_dNt) ∧ (type_of% @z_call) ∧ (type_of% @z_next) ∧ (type_of% @z_seqS) ∧ (type_of% @z_ret) ∧ (type_of% @z_retN) ∧ (type_of% @z_drop) ∧ (type_of% @z_brk) ∧ (type_of% @z_cnt) ∧ (type_of% @z_gN) ∧ (type_of% @z_gsNil) ∧ (type_of% @z_gsCons) ∧ (type_of% @z_headL) ∧ (type_of% @z_nilL) ∧ (type_of% @z_gT) ∧ (type_of% @z_gL) ∧ (type_of% @z_tupD) ∧ (type_of% @z_lstD) ∧ (type_of% @z_asg) ∧ (type_of% @z_set) ∧ (type_of% @z_slot0) ∧ (type_of% @z_slotS) ∧ (type_of% @z_frz) := ⟨@z_isN, @z_notN, @z_var0, @z_varS, @z_slot, @z_c, @z_nil, @z_cons, @z_tup, @z_lst, @z_sz, @z_f, @z_op, @z_un, @z_tBl, @z_bl, @z_tNt, @z_notT, @z_notF, @z_dNt, @z_call, @z_next, @z_seqS, @z_ret, @z_retN, @z_drop, @z_brk, @z_cnt, @z_gN, @z_gsNil, @z_gsCons, @z_headL, @z_nilL, @z_gT, @z_gL, @z_tupD, @z_lstD, @z_asg, @z_set, @z_slot0, @z_slotS, @z_frz⟩
theorem zGd1 : (type_of% @z_aug) ∧ (type_of% @z_for) ∧ (type_of% @z_lc) ∧ (type_of% @z_yes) ∧ (type_of% @z_sl) ∧ (type_of% @z_noP) ∧ (type_of% @z_aP) ∧ (type_of% @z_intO) ∧ (type_of% @z_ifS) ∧ (type_of% @iteS_t) ∧ (type_of% @iteS_f) ∧ (type_of% @z_ifE) ∧ (type_of% @iteE_t) ∧ (type_of% @iteE_f) ∧ (type_of% @z_an) ∧ (type_of% @z_or) ∧ (type_of% @anE_t) ∧ (type_of% @anE_f) ∧ (type_of% @orE_t) ∧ (type_of% @orE_f) ∧ (type_of% @z_tan) ∧ (type_of% @z_tor) ∧ (type_of% @anT_t) ∧ (type_of% @anT_f) ∧ (type_of% @orT_t) ∧ (type_of% @orT_f) ∧ (type_of% @z_seq) ∧ (type_of% @z_seqL) ∧ (type_of% @z_seqT) ∧ (type_of% @z_seqSt) ∧ (type_of% @z_star) ∧ (type_of% @z_starT) ∧ (type_of% @z_starL) ∧ (type_of% @z_neg) ∧ (type_of% @z_sub) ∧ (type_of% @z_mod) ∧ (type_of% @z_div) ∧ (type_of% @z_lt) ∧ (type_of% @z_le) ∧ (type_of% @z_gt) ∧ (type_of% @z_ge) ∧ (type_of% @z_addI) ∧ (type_of% @z_addS) ∧ (type_of% @z_addL) ∧ (type_of% @z_addT) ∧ (type_of% @z_iaddI) ∧ (type_of% @z_iaddS) ∧ (type_of% @z_mulI) ∧ (type_of% @z_mulS) ∧ (type_of% @z_mulL) ∧ (type_of% @z_atD) ∧ (type_of% @z_atC) ∧ (type_of% @z_ixS) ∧ (type_of% @z_ixL0) ∧ (type_of% @z_ixL1) ∧ (type_of% @z_ixL2) ∧ (type_of% @z_ixL3) ∧ (type_of% @z_ixL4) ∧ (type_of% @z_ixL5) ∧ (type_of% @z_ixL6) := ⟨@z_aug, @z_for, @z_lc, @z_yes, @z_sl, @z_noP, @z_aP, @z_intO, @z_ifS, @iteS_t, @iteS_f, @z_ifE, @iteE_t, @iteE_f, @z_an, @z_or, @anE_t, @anE_f, @orE_t, @orE_f, @z_tan, @z_tor, @anT_t, @anT_f, @orT_t, @orT_f, @z_seq, @z_seqL, @z_seqT, @z_seqSt, @z_star, @z_starT, @z_starL, @z_neg, @z_sub, @z_mod, @z_div, @z_lt, @z_le, @z_gt, @z_ge, @z_addI, @z_addS, @z_addL, @z_addT, @z_iaddI, @z_iaddS, @z_mulI, @z_mulS, @z_mulL, @z_atD, @z_atC, @z_ixS, @z_ixL0, @z_ixL1, @z_ixL2, @z_ixL3, @z_ixL4, @z_ixL5, @z_ixL6⟩
theorem zGd2 : (type_of% @z_ixL7) ∧ (type_of% @z_ixT0) ∧ (type_of% @z_ixT1) ∧ (type_of% @z_ixT2) ∧ (type_of% @z_ixT3) ∧ (type_of% @z_ixT4) ∧ (type_of% @z_ixT5) ∧ (type_of% @z_ixT6) ∧ (type_of% @z_ixT7) ∧ (type_of% @z_eqS) ∧ (type_of% @z_eqI) ∧ (type_of% @z_eqB) ∧ (type_of% @z_eqL) ∧ (type_of% @z_eqT) ∧ (type_of% @z_neS) ∧ (type_of% @z_neI) ∧ (type_of% @z_neB) ∧ (type_of% @z_neL) ∧ (type_of% @z_neT) ∧ (type_of% @z_inL) ∧ (type_of% @z_inT) ∧ (type_of% @z_ninL) ∧ (type_of% @z_ninT) ∧ (type_of% @z_slL) ∧ (type_of% @z_slT) ∧ (type_of% @z_slS) ∧ (type_of% @z_lenL) ∧ (type_of% @z_lenT) ∧ (type_of% @z_lenS) ∧ (type_of% @z_intI) ∧ (type_of% @z_intB) ∧ (type_of% @z_abs) ∧ (type_of% @z_max) ∧ (type_of% @z_tupL) ∧ (type_of% @z_tupT) ∧ (type_of% @z_par) ∧ (type_of% @z_r1) ∧ (type_of% @z_r1D) ∧ (type_of% @z_r2) ∧ (type_of% @z_r2D) ∧ (type_of% @z_fld) ∧ (type_of% @z_fldD) ∧ (type_of% @z_prop) ∧ (type_of% @z_isO) ∧ (type_of% @z_meth) ∧ (type_of% @z_callO) ∧ (type_of% @z_make) ∧ (type_of% @z_own2) ∧ (type_of% @z_own1) ∧ (type_of% @z_ownNe) ∧ (type_of% @z_isi) ∧ (type_of% @z_isiN) ∧ (type_of% @z_isiB) ∧ (type_of% @z_isiI) ∧ (type_of% @z_isiS) ∧ (type_of% @z_isiL) ∧ (type_of% @z_isiT) ∧ (type_of% @z_isiD) ∧ (type_of% @z_dget) := ⟨@z_ixL7, @z_ixT0, @z_ixT1, @z_ixT2, @z_ixT3, @z_ixT4, @z_ixT5, @z_ixT6, @z_ixT7, @z_eqS, @z_eqI, @z_eqB, @z_eqL, @z_eqT, @z_neS, @z_neI, @z_neB, @z_neL, @z_neT, @z_inL, @z_inT, @z_ninL, @z_ninT, @z_slL, @z_slT, @z_slS, @z_lenL, @z_lenT, @z_lenS, @z_intI, @z_intB, @z_abs, @z_max, @z_tupL, @z_tupT, @z_par, @z_r1, @z_r1D, @z_r2, @z_r2D, @z_fld, @z_fldD, @z_prop, @z_isO, @z_meth, @z_callO, @z_make, @z_own2, @z_own1, @z_ownNe, @z_isi, @z_isiN, @z_isiB, @z_isiI, @z_isiS, @z_isiL, @z_isiT, @z_isiD, @z_dget⟩
theorem zGd3 : (type_of% @z_dgS) ∧ (type_of% @z_dgI) ∧ (type_of% @z_dic) ∧ (type_of% @z_dicD) ∧ (type_of% @z_mt) ∧ (type_of% @z_mtS) ∧ (type_of% @z_mtL) ∧ (type_of% @z_en) ∧ (type_of% @z_enL) ∧ (type_of% @z_enD) ∧ (type_of% @z_inK) ∧ (type_of% @z_ninK) ∧ (type_of% @z_oD) ∧ (type_of% @z_oF) ∧ (type_of% @z_oNil) ∧ (type_of% @z_oCons) ∧ (type_of% @z_oDic0) ∧ (type_of% @z_dFz) ∧ (type_of% @z_setT) ∧ (type_of% @z_retE) ∧ (type_of% @z_retO) ∧ (type_of% @z_oCall) ∧ (type_of% @z_par2) ∧ (type_of% @z_par3) ∧ (type_of% @z_sOs) ∧ (type_of% @z_sOl) ∧ (type_of% @z_sOd) ∧ (type_of% @z_rVar) ∧ (type_of% @z_appR) ∧ (type_of% @z_oI) ∧ (type_of% @z_dputR) ∧ (type_of% @z_lstA0) ∧ (type_of% @z_lstAS) ∧ (type_of% @z_dicA0) ∧ (type_of% @z_dicAS) ∧ (type_of% @z_putS0) ∧ (type_of% @z_putSS) ∧ (type_of% @z_setO0) ∧ (type_of% @z_setO1) ∧ (type_of% @z_setO2) ∧ (type_of% @z_lstA1) := ⟨@z_dgS, @z_dgI, @z_dic, @z_dicD, @z_mt, @z_mtS, @z_mtL, @z_en, @z_enL, @z_enD, @z_inK, @z_ninK, @z_oD, @z_oF, @z_oNil, @z_oCons, @z_oDic0, @z_dFz, @z_setT, @z_retE, @z_retO, @z_oCall, @z_par2, @z_par3, @z_sOs, @z_sOl, @z_sOd, @z_rVar, @z_appR, @z_oI, @z_dputR, @z_lstA0, @z_lstAS, @z_dicA0, @z_dicAS, @z_putS0, @z_putSS, @z_setO0, @z_setO1, @z_setO2, @z_lstA1⟩
theorem zGd4 : (type_of% @z_lstA2) ∧ (type_of% @z_tBor) ∧ (type_of% @z_dBor) ∧ (type_of% @z_scN) ∧ (type_of% @z_scB) ∧ (type_of% @z_scI) ∧ (type_of% @z_scS) ∧ (type_of% @z_ownO0) ∧ (type_of% @z_ownOS) := ⟨@z_lstA2, @z_tBor, @z_dBor, @z_scN, @z_scB, @z_scI, @z_scS, @z_ownO0, @z_ownOS⟩
theorem zGp0 : (type_of% @z_nnN) ∧ (type_of% @z_nnT) ∧ (type_of% @z_nnL) ∧ (type_of% @z_nnO) ∧ (type_of% @atI0) ∧ (type_of% @atI1) ∧ (type_of% @atI2) ∧ (type_of% @atI3) ∧ (type_of% @atI4) ∧ (type_of% @atI5) ∧ (type_of% @atI6) ∧ (type_of% @atI7) ∧ (type_of% @z_sz) ∧ (type_of% @z_notT) ∧ (type_of% @z_notF) ∧ (type_of% @z_tupD) ∧ (type_of% @z_lstD) ∧ (type_of% @iteS_t) ∧ (type_of% @iteS_f) ∧ (type_of% @iteE_t) ∧ (type_of% @iteE_f) ∧ (type_of% @anE_t) ∧ (type_of% @anE_f) ∧ (type_of% @orE_t) ∧ (type_of% @orE_f) ∧ (type_of% @anT_t) ∧ (type_of% @anT_f) ∧ (type_of% @orT_t) ∧ (type_of% @orT_f) ∧ (type_of% @z_atD) ∧ (type_of% @z_ixL) ∧ (type_of% @z_ixT) ∧ (type_of% @z_dicD) ∧ (type_of% @z_toDs) ∧ (type_of% @z_toDl) ∧ (type_of% @z_toDd) := ⟨@z_nnN, @z_nnT, @z_nnL, @z_nnO, @atI0, @atI1, @atI2, @atI3, @atI4, @atI5, @atI6, @atI7, @z_sz, @z_notT, @z_notF, @z_tupD, @z_lstD, @iteS_t, @iteS_f, @iteE_t, @iteE_f, @anE_t, @anE_f, @orE_t, @orE_f, @anT_t, @anT_f, @orT_t, @orT_f, @z_atD, @z_ixL, @z_ixT, @z_dicD, @z_toDs, @z_toDl, @z_toDd⟩
end DL
namespace L2
open PySem PySem.Spec PyProof.Rows
section
variable {X : Cx} {pins : List (Addr × Obj)} {σ : St} {H H' : Hp} {s : Shared} {E : Value → Shared → Prop} {a : Addr} {y v : V} {u r : Value} {Q : Unit → Shared → Prop}
/-- what may stand at a dict that was just made -/
def Dc0 (o : HO) : Prop := o = .dK [] ∨ o = .dT []
theorem Dc0.ok {P : Program} {w : World} {H : Hp} {o : HO} (c : Dc0 o) (h : Heap) (hb : sysModules < h.objs.size) : ObjOk P w H (h.push { cls := .type "dict", data := .dict #[] }) h.objs.size o := by
  rcases c with rfl | rfl
  · exact dk_empty h hb
  · exact dt_empty h hb
end
end L2
namespace DL
open PySem PySem.Spec PyProof.Rows L2 Evl
section
variable {K : PySem.W.Frag} {B : Bx} {G : Hp}
theorem DatT.any {k : List Key} : ∀ {vs : List (List Key × V)} {xs : List (D × D)}, DatT K B G vs xs → (vs.any fun kv => decide (kv.1 = k)) = xs.any fun z => keqD z.1 (embT k)
  | _, _, .nil => rfl
  | _, _, .cons (k := i) _ t => by
    rw [List.any_cons, List.any_cons, DatT.any t]
    show (decide (i = k) || _) = (keqD (embT i) (embT k) || _)
    rw [keqD_T]
theorem DatT.snoc {k : List Key} {v : V} {d : D} (h : Dat K B G v d) : ∀ {vs : List (List Key × V)} {xs : List (D × D)}, DatT K B G vs xs → DatT K B G (vs ++ [(k, v)]) (xs ++ [(embT k, d)])
  | _, _, .nil => .cons h .nil
  | _, _, .cons a t => .cons a (DatT.snoc h t)
end
end DL
namespace DL
open PySem PySem.Spec PyProof.Rows L2 Evl
section
variable {prog : Program} {w : World} {A : Around} {E : Value → Shared → Prop} {s : Shared}
abbrev XT := List (List Key × Addr × Value)
inductive HitsH (prog : Program) (w : World) (A : Around) (s : Shared) (xb : XT) : XT → Bool → Prop
  | nil : HitsH prog w A s xb [] true
  | miss {k : List Key} {p : Addr × Value} {r : XT} : (∀ (j : Nat) (q : Addr × Value), xb[j]? ≠ some (k, q)) → HitsH prog w A s xb ((k, p) :: r) false
  | hit {k : List Key} {a : Addr} {v : Value} {j : Nat} {b : Addr} {y : Value} {r : XT} {e b' : Bool} : xb[j]? = some (k, (b, y)) → SeqAt.EqP prog w A s v y e → HitsH prog w A s xb r b' → HitsH prog w A s xb ((k, (a, v)) :: r) (e && b')
theorem HitsH.inv {xb : XT} {k : List Key} {a : Addr} {v : Value} {r : XT} {b : Bool} (h : HitsH prog w A s xb ((k, (a, v)) :: r) b) :
    ((∀ (j : Nat) (q : Addr × Value), xb[j]? ≠ some (k, q)) ∧ b = false) ∨ ∃ (j : Nat) (b0 : Addr) (y : Value) (e b' : Bool), xb[j]? = some (k, (b0, y)) ∧ SeqAt.EqP prog w A s v y e ∧ HitsH prog w A s xb r b' ∧ b = (e && b') := by
  cases h with
  | miss hn => exact .inl ⟨hn, rfl⟩
  | hit hy he hr => exact .inr ⟨_, _, _, _, _, hy, he, hr, rfl⟩
theorem samePairsH {nm : String} {a b : Addr} {xa xb : XT} {r : Bool} {Q : Bool → Shared → Prop} (hu : A.units < cLine) (ha : (a == sysModules) = false) (hb : (b == sysModules) = false)
    (da : s.heap.DictOfH (tupleKind (mixKind prog w)) a xa) (db : s.heap.DictOfH (tupleKind (mixKind prog w)) b xb) (hits : xa.length = xb.length → HitsH prog w A s xb xa r) (h : Q (xa.length == xb.length && r) s) :
    wpAny (model prog w) A (Builtin.Dict.samePairs nm a b) Q E s := by
  obtain ⟨oa, es, ep, hoa, _, hda, hea, hka, hna⟩ := da
  obtain ⟨ob, es', ep', hob, _, hdb, heb, hkb, hnb⟩ := db
  have hla : xa.length = es.size := (size_of_entries hea).symm
  have hlb : xb.length = es'.size := (size_of_entries heb).symm
  rw [hla, hlb] at h
  unfold Builtin.Dict.samePairs Builtin.Dict.showsAll
  rw [if_neg (show ¬ (a == sysModules) = true by rw [ha]; exact Bool.false_ne_true), if_neg (show ¬ (b == sysModules) = true by rw [hb]; exact Bool.false_ne_true)]
  refine wpAny_bind (wpAny_pure (wpAny_bind (wpAny_pure ?_)))
  refine wpAny_bind (wpAny_dictEntries hoa hda ?_)
  dsimp only
  refine wpAny_bind (wpAny_dictEntries hob hdb ?_)
  by_cases hsz : es.size = es'.size
  case neg =>
    rw [if_pos (by simpa using hsz)]
    have hbf : (es.size == es'.size) = false := by simpa using hsz
    rw [hbf, Bool.false_and] at h
    exact wpAny_bind (wpAny_rule (wpAny_pure h))
  case pos =>
    have h' : Q r s := by simpa [hsz] using h
    have hits' := hits (by rw [hla, hlb]; exact hsz)
    rw [if_neg (by rw [hsz]; simp)]
    refine wpAny_bind (wpAny_dictEpoch hoa hda ?_)
    refine wpAny_bind ?_
    rw [Std.Legacy.Range.forIn_eq_forIn_range']
    simp only [Std.Legacy.Range.size, Nat.sub_zero, Nat.add_sub_cancel, Nat.div_one]
    refine wpAny_forIn_list _
      (fun rest q s' => s' = s ∧ q = (none, ()) ∧ ∃ i, rest = List.range' i (es.size - i) ∧ i ≤ es.size ∧ HitsH prog w A s xb (xa.drop i) r)
      _ ?_ ?_ _ _ ⟨rfl, rfl, 0, by simp, Nat.zero_le _, hits'⟩
    · rintro x rest q s' ⟨rfl, rfl, i, hr, hi, hpre⟩
      have hlt : i < es.size := by
        rcases Nat.lt_or_ge i es.size with h | h
        · exact h
        · rw [Nat.sub_eq_zero_of_le h] at hr; simp at hr
      obtain ⟨rfl, hrest⟩ : x = i ∧ rest = List.range' (i + 1) (es.size - (i + 1)) := by
        have e : es.size - i = (es.size - (i + 1)) + 1 := by omega
        rw [e, List.range'_succ] at hr
        injection hr with h1 h2
        exact ⟨h1, h2⟩
      refine wpAny_bind (wpAny_dictEntries hoa hda ?_)
      have hlt' : x < xa.length := by rw [hla]; exact hlt
      obtain ⟨k, p, v, hkv⟩ : ∃ k p v, xa[x] = (k, (p, v)) := ⟨_, _, _, rfl⟩
      have hdrop : xa.drop x = (k, (p, v)) :: xa.drop (x + 1) := by rw [← hkv]; exact List.drop_eq_getElem_cons hlt'
      have hxe : es[x]? = some (entryOfKey (tupleKind (mixKind prog w)) (k, (p, v))) := by rw [entry_at hea x, List.getElem?_eq_getElem hlt', hkv]; rfl
      have hkey := hka (k, (p, v)) (by rw [← hkv]; exact List.getElem_mem hlt')
      rw [hxe]
      rw [hdrop] at hpre
      show wpAny _ _ (holding [Value.ref p, v] _ >>= _) _ _ _
      refine wpAny_bind (wpAny_holding (wpAny_bind (wpAny_dictFind_heap (knd := tupleKind (mixKind prog w)) hu hkey hob hdb heb hkb hnb (fun hno => ?_) (fun j pq hj => ?_))))
      · rcases hpre.inv with ⟨_, er⟩ | ⟨j, _, _, _, _, hy, _⟩
        · rw [er] at h'
          refine wpAny_pure ?_
          show wpAny _ _ (if (!false) = true then _ else _) _ _ _
          rw [if_pos (by decide)]
          exact wpAny_pure (wpAny_pure h')
        · exact absurd hy (hno j _)
      · obtain ⟨q1, q2⟩ := pq
        refine wpAny_bind (wpAny_dictEntries hob hdb ?_)
        have hje : es'[j]? = some (entryOfKey (tupleKind (mixKind prog w)) (k, (q1, q2))) := by rw [entry_at heb j, hj]; rfl
        rw [hje]
        rcases hpre.inv with ⟨hn, _⟩ | ⟨j2, b0, y, e, b', hy, he, hrr, er⟩
        · exact absurd hj (hn j _)
        · have ej : j2 = j := idxH_unique hnb hy hj
          subst ej
          rw [hj] at hy
          have ey : q2 = y := by injection hy with hy; injection hy with _ hy; injection hy
          rw [← ey] at he
          refine wpAny_holding (he _ _ ?_)
          cases e with
          | false =>
            rw [er, Bool.false_and] at h'
            show wpAny _ _ (if (!false) = true then _ else _) _ _ _
            rw [if_pos (by decide)]
            exact wpAny_pure (wpAny_pure h')
          | true =>
            rw [Bool.true_and] at er
            rw [← er] at hrr
            show wpAny _ _ (if (!true) = true then _ else _) _ _ _
            rw [if_neg (by decide)]
            refine wpAny_bind (wpAny_dictEpoch hoa hda ?_)
            rw [if_neg (by simp)]
            exact wpAny_pure ⟨rfl, rfl, x + 1, hrest, hlt, hrr⟩
    · rintro q s' ⟨rfl, rfl, i, hr, hi, hpre⟩
      have hin : i = es.size := by
        rcases Nat.lt_or_ge i es.size with h | h
        · have e : es.size - i = (es.size - (i + 1)) + 1 := by omega
          rw [e, List.range'_succ] at hr; exact nomatch hr
        · exact Nat.le_antisymm hi h
      refine wpAny_pure ?_
      rw [hin, ← hla, List.drop_length] at hpre
      cases hpre
      exact h'
theorem rcH_eq {a b : Addr} {xa xb : XT} {r : Bool} (ha : (a == sysModules) = false) (hb : (b == sysModules) = false) (da : s.heap.DictOfH (tupleKind (mixKind prog w)) a xa) (db : s.heap.DictOfH (tupleKind (mixKind prog w)) b xb)
    (hu : A.units + 1 < cLine) (hits : xa.length = xb.length → HitsH prog w A.in1 s xb xa r) (E Q : Value → Shared → Prop) (h : Q (.bool (xa.length == xb.length && r)) s) : wpAny (model prog w) A (richCompare .Eq (.ref a) (.ref b)) Q E s := by
  refine wpAny_richCompare_same_room (op := .Eq) da.typeIs db.typeIs PySem.F.slot_dict_eq (wpAny_call_entry PySem.F.slot_dict_eq da.typeIs PySem.F.entry_dict_eq ?_ (PySem.F.args_dict_eq_2 _ _)) (by omega)
  show wpAny _ _ (Builtin.Dict.dictSlotArgs "__eq__" ⟨[.ref a, .ref b], []⟩ >>= _) _ _ s
  refine wpAny_bind ?_
  unfold Builtin.Dict.dictSlotArgs
  refine wpAny_bind (wpAny_notOrdered_dict da.typeIs ?_)
  show wpAny _ _ (pure (Value.ref a, Value.ref b)) _ _ s
  refine wpAny_pure ?_
  refine wpAny_bind (wpAny_isInstance (T := "dict") db.typeIs PySem.F.sub_dict_dict ?_)
  simp only [Bool.not_true, Bool.false_eq_true, if_false]
  refine wpAny_bind (wpAny_pure (wpAny_bind (wpAny_pure ?_)))
  refine wpAny_bind (samePairsH (A := A.in1) (show A.units + 1 < cLine from hu) ha hb da db hits ?_)
  refine wpAny_pure ⟨_, rfl, ?_, ?_⟩
  · exact fun x => nomatch x
  · simpa using h
end
end DL
namespace DL
open PySem PySem.Spec PyProof.Rows L2 Evl
mutual
def eqG : D → D → Bool
  | .lst xs, .lst ys => eqGs xs ys
  | .tup xs, .tup ys => eqGs xs ys
  | .dic ks, .dic ls => (ks.length == ls.length) && eqGk ls ks
  | x, y => eqb x y
def eqGs : List D → List D → Bool
  | [], [] => true
  | x :: xs, y :: ys => eqG x y && eqGs xs ys
  | _, _ => false
def eqGk (ls : List (D × D)) : List (D × D) → Bool
  | [] => true
  | (k, v) :: r => (match lookK ls k with
    | some y => eqG v y && eqGk ls r
    | none => false)
end
def nodupK : List (D × D) → Bool
  | [] => true
  | (k, _) :: r => keqD k k && !(r.any fun z => keqD k z.1) && nodupK r
mutual
def okG : D → Bool
  | .dic ks => nodupK ks && okGk ks
  | .lst xs => okGs xs
  | .tup xs => okGs xs
  | .obj _ _ => false
  | .bag => false
  | .ktup _ => false
  | _ => true
def okGs : List D → Bool
  | [] => true
  | x :: xs => okG x && okGs xs
def okGk : List (D × D) → Bool
  | [] => true
  | (k, v) :: r => okG k && okG v && okGk r
end
def kfit (ks ls : List (D × D)) : Bool := (ks.all (fun z => (dk1 z.1).isSome) && ls.all (fun z => (dk1 z.1).isSome)) || (ks.all (fun z => (dkT z.1).isSome) && ls.all (fun z => (dkT z.1).isSome))
mutual
theorem eqG_fine : ∀ (x y : D), x.fine = true → y.fine = true → eqG x y = eqb x y
  | .lst xs, .lst ys, h, h' => by
    rw [eqG, eqb, D.py, D.py, PyData.eqv]
    exact eqGs_fine xs ys (by simpa [D.fine] using h) (by simpa [D.fine] using h')
  | .tup xs, .tup ys, h, h' => by
    rw [eqG, eqb, D.py, D.py, PyData.eqv]
    exact eqGs_fine xs ys (by simpa [D.fine] using h) (by simpa [D.fine] using h')
  | .dic _, .dic _, h, _ => by simp [D.fine] at h
  | .non, y, _, _ => by cases y <;> rfl
  | .bl _, y, _, _ => by cases y <;> rfl
  | .int _, y, _, _ => by cases y <;> rfl
  | .str _, y, _, _ => by cases y <;> rfl
  | .obj _ _, y, _, _ => by cases y <;> rfl
  | .bag, y, _, _ => by cases y <;> rfl
  | .ktup _, y, _, _ => by cases y <;> rfl
  | .lst xs, .non, _, _ => rfl
  | .lst xs, .bl _, _, _ => rfl
  | .lst xs, .int _, _, _ => rfl
  | .lst xs, .str _, _, _ => rfl
  | .lst xs, .tup _, _, _ => rfl
  | .lst xs, .dic _, _, _ => rfl
  | .lst xs, .obj _ _, _, _ => rfl
  | .lst xs, .bag, _, _ => rfl
  | .lst xs, .ktup _, _, _ => rfl
  | .tup xs, .non, _, _ => rfl
  | .tup xs, .bl _, _, _ => rfl
  | .tup xs, .int _, _, _ => rfl
  | .tup xs, .str _, _, _ => rfl
  | .tup xs, .lst _, _, _ => rfl
  | .tup xs, .dic _, _, _ => rfl
  | .tup xs, .obj _ _, _, _ => rfl
  | .tup xs, .bag, _, _ => rfl
  | .tup xs, .ktup _, _, _ => rfl
  | .dic _, .non, _, _ => rfl
  | .dic _, .bl _, _, _ => rfl
  | .dic _, .int _, _, _ => rfl
  | .dic _, .str _, _, _ => rfl
  | .dic _, .lst _, _, _ => rfl
  | .dic _, .tup _, _, _ => rfl
  | .dic _, .obj _ _, _, _ => rfl
  | .dic _, .bag, _, _ => rfl
  | .dic _, .ktup _, _, _ => rfl
theorem eqGs_fine : ∀ (xs ys : List D), fineL xs = true → fineL ys = true → eqGs xs ys = PyData.eqvAll (pyL xs) (pyL ys)
  | [], [], _, _ => by rw [eqGs, pyL, PyData.eqvAll]
  | x :: xs, y :: ys, h, h' => by
    have a : x.fine = true ∧ fineL xs = true := by simpa [fineL] using h
    have b : y.fine = true ∧ fineL ys = true := by simpa [fineL] using h'
    rw [eqGs, pyL, pyL, PyData.eqvAll, eqG_fine x y a.1 b.1, eqGs_fine xs ys a.2 b.2, eqb]
  | [], _ :: _, _, _ => by rw [eqGs, pyL, pyL, PyData.eqvAll] <;> simp
  | _ :: _, [], _, _ => by rw [eqGs, pyL, pyL, PyData.eqvAll] <;> simp
end
theorem lookK_cons {α : Type} {k y : D} {v : α} {r : List (D × α)} : lookK ((k, v) :: r) y = if keqD k y = true then some v else lookK r y := by
  unfold lookK
  rw [List.find?_cons]
  by_cases h : keqD k y = true
  · rw [if_pos h]; simp [h]
  · rw [if_neg h]; simp [h]
theorem look_self : ∀ {ks : List (D × D)}, nodupK ks = true → ∀ k v, (k, v) ∈ ks → lookK ks k = some v
  | [], _, _, _, h => nomatch h
  | (k0, v0) :: r, h, k, v, hm => by
    have h' : (keqD k0 k0 = true ∧ (r.any fun z => keqD k0 z.1) = false) ∧ nodupK r = true := by simpa [nodupK] using h
    rw [lookK_cons]
    rcases List.mem_cons.mp hm with e | hm
    · cases e
      rw [if_pos h'.1.1]
    · have : keqD k0 k = false := by
        have := List.any_eq_false.mp h'.1.2 (k, v) hm
        simpa using this
      rw [if_neg (by rw [this]; decide)]
      exact look_self h'.2 k v hm
mutual
theorem eqG_refl : ∀ x : D, okG x = true → eqG x x = true
  | .lst xs, h => by rw [eqG]; exact eqGs_refl xs (by simpa [okG] using h)
  | .tup xs, h => by rw [eqG]; exact eqGs_refl xs (by simpa [okG] using h)
  | .dic ks, h => by
    have h' : nodupK ks = true ∧ okGk ks = true := by simpa [okG] using h
    rw [eqG, eqGk_refl ks ks (fun k v hm => look_self h'.1 k v hm) h'.2]
    simp
  | .non, _ => by rw [eqG, eqb, D.py, PyData.eqv] <;> simp
  | .bl b, _ => by simp [eqG, eqb, D.py, PyData.eqv]
  | .int i, _ => by simp [eqG, eqb, D.py, PyData.eqv]
  | .str x, _ => by simp [eqG, eqb, D.py, PyData.eqv]
  | .obj _ _, h => by simp [okG] at h
  | .bag, h => by simp [okG] at h
  | .ktup _, h => by simp [okG] at h
theorem eqGs_refl : ∀ xs : List D, okGs xs = true → eqGs xs xs = true
  | [], _ => by rw [eqGs]
  | x :: xs, h => by
    have h' : okG x = true ∧ okGs xs = true := by simpa [okGs] using h
    rw [eqGs, eqG_refl x h'.1, eqGs_refl xs h'.2]
    rfl
theorem eqGk_refl (ls : List (D × D)) : ∀ ks : List (D × D), (∀ k v, (k, v) ∈ ks → lookK ls k = some v) → okGk ks = true → eqGk ls ks = true
  | [], _, _ => by rw [eqGk]
  | (k, v) :: r, hl, h => by
    have h' : (okG k = true ∧ okG v = true) ∧ okGk r = true := by simpa [okGk] using h
    rw [eqGk, hl k v List.mem_cons_self]
    show (eqG v v && eqGk ls r) = true
    rw [eqG_refl v h'.1.2, eqGk_refl ls r (fun k v hm => hl k v (List.mem_cons_of_mem _ hm)) h'.2]
    rfl
end
section
variable {K : PySem.W.Frag} {B : Bx} {G : Hp}
mutual
/-- what a value tells is one thing -/
theorem Dat.fn : ∀ {v : V} {d e : D}, Dat K B G v d → Dat K B G v e → okG d = true → okG e = true → d = e
  | _, _, _, .non, h, _, _ => by cases h; rfl
  | _, _, _, .bl b, h, _, _ => by cases h; rfl
  | _, _, _, .int i, h, _, _ => by cases h; rfl
  | _, _, _, .str x, h, _, _ => by cases h; rfl
  | _, _, _, .lst a t, h, o, o' => by
    cases h with
    | lst a' t' =>
      rw [a] at a'
      injection a' with a'; injection a' with a'
      subst a'
      rw [Dats.fn t t' (by simpa [okG] using o) (by simpa [okG] using o')]
    | tup a' t' => rw [a] at a'; injection a' with a'; cases a'
    | dK a' t' => rw [a] at a'; injection a' with a'; cases a'
    | dT a' t' => rw [a] at a'; injection a' with a'; cases a'
    | ktup _ _ => simp [okG] at o'
    | bag => simp [okG] at o'
    | obj _ _ _ => simp [okG] at o'
  | _, _, _, .tup a t, h, o, o' => by
    cases h with
    | tup a' t' =>
      rw [a] at a'
      injection a' with a'; injection a' with a'
      subst a'
      rw [Dats.fn t t' (by simpa [okG] using o) (by simpa [okG] using o')]
    | lst a' t' => rw [a] at a'; injection a' with a'; cases a'
    | dK a' t' => rw [a] at a'; injection a' with a'; cases a'
    | dT a' t' => rw [a] at a'; injection a' with a'; cases a'
    | ktup _ _ => simp [okG] at o'
    | bag => simp [okG] at o'
    | obj _ _ _ => simp [okG] at o'
  | _, _, _, .dK a t, h, o, o' => by
    have ho : okGk _ = true := (Bool.and_eq_true_iff.mp (by simpa [okG] using o)).2
    have ho' := o'
    cases h with
    | dK a' t' =>
      rw [a] at a'
      injection a' with a'; injection a' with _ a'; injection a' with a'
      subst a'
      rw [DatK.fn t t' ho (Bool.and_eq_true_iff.mp (by simpa [okG] using o')).2]
    | lst a' t' => rw [a] at a'; injection a' with a'; cases a'
    | tup a' t' => rw [a] at a'; injection a' with a'; cases a'
    | dT a' t' => rw [a] at a'; injection a' with a'; injection a' with _ a'; cases a'
    | ktup _ _ => simp [okG] at o'
    | bag => simp [okG] at o'
    | obj _ _ _ => simp [okG] at o'
  | _, _, _, .dT a t, h, o, o' => by
    have ho : okGk _ = true := (Bool.and_eq_true_iff.mp (by simpa [okG] using o)).2
    cases h with
    | dT a' t' =>
      rw [a] at a'
      injection a' with a'; injection a' with _ a'; injection a' with a'
      subst a'
      rw [DatT.fn t t' ho (Bool.and_eq_true_iff.mp (by simpa [okG] using o')).2]
    | lst a' t' => rw [a] at a'; injection a' with a'; cases a'
    | tup a' t' => rw [a] at a'; injection a' with a'; cases a'
    | dK a' t' => rw [a] at a'; injection a' with a'; injection a' with _ a'; cases a'
    | ktup _ _ => simp [okG] at o'
    | bag => simp [okG] at o'
    | obj _ _ _ => simp [okG] at o'
  | _, _, _, .ktup _ _, _, o, _ => by simp [okG] at o
  | _, _, _, .bag, _, o, _ => by simp [okG] at o
  | _, _, _, .obj _ _ _, _, o, _ => by simp [okG] at o
theorem Dats.fn : ∀ {v : List V} {d e : List D}, Dats K B G v d → Dats K B G v e → okGs d = true → okGs e = true → d = e
  | _, _, _, .nil, h, _, _ => by cases h; rfl
  | _, _, _, .cons a t, h, o, o' => by
    cases h with
    | cons a' t' =>
      have h1 := Bool.and_eq_true_iff.mp (by simpa only [okGs] using o)
      have h2 := Bool.and_eq_true_iff.mp (by simpa only [okGs] using o')
      rw [Dat.fn a a' h1.1 h2.1, Dats.fn t t' h1.2 h2.2]
theorem DatK.fn : ∀ {v : List (Key × V)} {d e : List (D × D)}, DatK K B G v d → DatK K B G v e → okGk d = true → okGk e = true → d = e
  | _, _, _, .nil, h, _, _ => by cases h; rfl
  | _, _, _, .consI a t, h, o, o' => by
    cases h with
    | consI a' t' =>
      have h1 := Bool.and_eq_true_iff.mp (by simpa only [okGk] using o)
      have h2 := Bool.and_eq_true_iff.mp (by simpa only [okGk] using o')
      rw [Dat.fn a a' (Bool.and_eq_true_iff.mp h1.1).2 (Bool.and_eq_true_iff.mp h2.1).2, DatK.fn t t' h1.2 h2.2]
  | _, _, _, .consS a t, h, o, o' => by
    cases h with
    | consS a' t' =>
      have h1 := Bool.and_eq_true_iff.mp (by simpa only [okGk] using o)
      have h2 := Bool.and_eq_true_iff.mp (by simpa only [okGk] using o')
      rw [Dat.fn a a' (Bool.and_eq_true_iff.mp h1.1).2 (Bool.and_eq_true_iff.mp h2.1).2, DatK.fn t t' h1.2 h2.2]
theorem DatT.fn : ∀ {v : List (List Key × V)} {d e : List (D × D)}, DatT K B G v d → DatT K B G v e → okGk d = true → okGk e = true → d = e
  | _, _, _, .nil, h, _, _ => by cases h; rfl
  | _, _, _, .cons a t, h, o, o' => by
    cases h with
    | cons a' t' =>
      have h1 := Bool.and_eq_true_iff.mp (by simpa only [okGk] using o)
      have h2 := Bool.and_eq_true_iff.mp (by simpa only [okGk] using o')
      rw [Dat.fn a a' (Bool.and_eq_true_iff.mp h1.1).2 (Bool.and_eq_true_iff.mp h2.1).2, DatT.fn t t' h1.2 h2.2]
end
end
section
variable {X : Cx} {B : Bx} {pins : List (Addr × Obj)} {σ : L2.St} {G H : Hp} {s : Shared}
def RcP (P : Program) (w : World) (A : Around) (s : Shared) (v u : Value) (b : Bool) : Prop := ∀ (E Q : Value → Shared → Prop), Q (.bool b) s → wpAny (model P w) A (richCompare .Eq v u) Q E s
/-- two data, compared in a state -/
def EqB (X : Cx) (B : Bx) (G : Hp) (s : Shared) (A : Around) (d e : D) : Prop := ∀ (x y : V) (v u : Value), Dat X.K B G x d → Dat X.K B G y e → RelV x v → RelV y u → SeqAt.EqP X.prog X.w A s v u (eqG d e)
theorem eqB_plain (I : Inv X pins σ H s) (e : Ex G H) {d d' : D} {A : Around} (hu : A.units + 64 < cLine) (p : plain d = true) (p' : plain d' = true) {x y : V} {v u : Value} (hx : Dat X.K B G x d) (hy : Dat X.K B G y d') (rx : RelV x v) (ry : RelV y u) :
    SeqAt.EqP X.prog X.w A s v u (eqG d d') ∧ RcP X.prog X.w A s v u (eqG d d') := by
  have f := (Bool.and_eq_true_iff.mp p).1
  have f' := (Bool.and_eq_true_iff.mp p').1
  rw [eqG_fine d d' f f']
  obtain ⟨as, ra⟩ := Dp.reads I _ _ _ (dat_dp e hx f) rx
  obtain ⟨bs, rb⟩ := Dp.reads I _ _ _ (dat_dp e hy f') ry
  have sh := plain_shaped p
  exact ⟨(SeqAt.eqAt_reads _ _ A s v u as bs ra rb (py_lay d f) (py_lay d' f') (SeqAt.room_of_shaped sh hu)).eqP,
    fun E Q h => SeqAt.eqOverData X.prog X.w A E s v u _ _ as bs Q ra rb (py_lay d f) (py_lay d' f') (SeqAt.room_of_shaped sh hu) h⟩
theorem lookK_K : ∀ {kvs : List (Key × V)} {ks : List (D × D)}, DatK X.K B G kvs ks → ∀ k : Key, (valV kvs k = none ∧ lookK ks (embK k) = none) ∨ ∃ v d, valV kvs k = some v ∧ lookK ks (embK k) = some d ∧ Dat X.K B G v d
  | _, _, .nil, k => .inl ⟨rfl, rfl⟩
  | _, _, .consI (i := i) h t, k => by
    rw [lookK_cons]
    have q : keqD (.int i) (embK k) = decide ((.inl i : Key) = k) := keqD_K (.inl i) k
    by_cases e : (.inl i : Key) = k
    · rw [valV_pos (p := (Sum.inl i, _)) e, if_pos (by rw [q]; exact decide_eq_true e)]
      exact .inr ⟨_, _, rfl, rfl, h⟩
    · rw [valV_neg (p := (Sum.inl i, _)) e, if_neg (by rw [q, decide_eq_false e]; decide)]
      exact lookK_K t k
  | _, _, .consS (x := i) h t, k => by
    rw [lookK_cons]
    have q : keqD (.str i) (embK k) = decide ((.inr i : Key) = k) := keqD_K (.inr i) k
    by_cases e : (.inr i : Key) = k
    · rw [valV_pos (p := (Sum.inr i, _)) e, if_pos (by rw [q]; exact decide_eq_true e)]
      exact .inr ⟨_, _, rfl, rfl, h⟩
    · rw [valV_neg (p := (Sum.inr i, _)) e, if_neg (by rw [q, decide_eq_false e]; decide)]
      exact lookK_K t k
theorem lookK_T : ∀ {kvs : List (List Key × V)} {ks : List (D × D)}, DatT X.K B G kvs ks → ∀ k : List Key, (valV kvs k = none ∧ lookK ks (embT k) = none) ∨ ∃ v d, valV kvs k = some v ∧ lookK ks (embT k) = some d ∧ Dat X.K B G v d
  | _, _, .nil, k => .inl ⟨rfl, rfl⟩
  | _, _, .cons (k := i) h t, k => by
    rw [lookK_cons]
    have q := keqD_T i k
    by_cases e : i = k
    · rw [valV_pos (p := (i, _)) e, if_pos (by rw [q]; exact decide_eq_true e)]
      exact .inr ⟨_, _, rfl, rfl, h⟩
    · rw [valV_neg (p := (i, _)) e, if_neg (by rw [q, decide_eq_false e]; decide)]
      exact lookK_T t k
def AllB (X : Cx) (B : Bx) (G : Hp) (s : Shared) (A : Around) (ls ks : List (D × D)) : Prop := ∀ k v y, (k, v) ∈ ks → lookK ls k = some y → EqB X B G s A v y
theorem AllB.tail {A : Around} {ls ks : List (D × D)} {z : D × D} (h : AllB X B G s A ls (z :: ks)) : AllB X B G s A ls ks := fun k v y m e => h k v y (List.mem_cons_of_mem _ m) e
theorem hitsK {A : Around} {lvs : List (Key × V)} {ls : List (D × D)} {vb : List (Key × Value)} (hb : DatK X.K B G lvs ls) (rb : KV lvs vb) : ∀ {kvs : List (Key × V)} {ks : List (D × D)} {va : List (Key × Value)}, DatK X.K B G kvs ks → KV kvs va → AllB X B G s A ls ks → PySem.W.KeqHitsP X.prog X.w A s vb va (eqGk ls ks)
  | _, _, _, .nil, r, _ => by
    unfold KV at r
    cases r
    rw [eqGk]
    exact .nil
  | _, _, _, .consI (i := i) (v := v) (d := d) (ds := ds) h t, r, al => by
    unfold KV at r
    cases r with
    | cons h1 h2 =>
      rename_i q qs
      obtain ⟨qk, qv⟩ := q
      obtain ⟨e1, e2⟩ := h1
      cases (show (Sum.inl i : Key) = qk from e1)
      rw [eqGk]
      have rr := rb.val (.inl i)
      rcases lookK_K hb (.inl i) with ⟨n1, n2⟩ | ⟨y, dy, y1, y2, y3⟩
      · rw [show lookK ls (.int i) = none from n2]
        rw [n1] at rr
        exact .miss rr.none_of
      · rw [show lookK ls (.int i) = some dy from y2]
        rw [y1] at rr
        obtain ⟨u, hu, ru⟩ := rr.some_of
        exact .hit hu (al (.int i) d dy List.mem_cons_self y2 _ _ _ _ h y3 e2 ru) (hitsK hb rb t h2 al.tail)
  | _, _, _, .consS (x := i) (v := v) (d := d) (ds := ds) h t, r, al => by
    unfold KV at r
    cases r with
    | cons h1 h2 =>
      rename_i q qs
      obtain ⟨qk, qv⟩ := q
      obtain ⟨e1, e2⟩ := h1
      cases (show (Sum.inr i : Key) = qk from e1)
      rw [eqGk]
      have rr := rb.val (.inr i)
      rcases lookK_K hb (.inr i) with ⟨n1, n2⟩ | ⟨y, dy, y1, y2, y3⟩
      · rw [show lookK ls (.str i) = none from n2]
        rw [n1] at rr
        exact .miss rr.none_of
      · rw [show lookK ls (.str i) = some dy from y2]
        rw [y1] at rr
        obtain ⟨u, hu, ru⟩ := rr.some_of
        exact .hit hu (al (.str i) d dy List.mem_cons_self y2 _ _ _ _ h y3 e2 ru) (hitsK hb rb t h2 al.tail)
theorem atKey_some {xs : XT} {k : List Key} {p : Addr × Value} (h : atKey xs k = some p) : ∃ j : Nat, xs[j]? = some (k, p) := by
  unfold atKey at h
  cases hf : (xs.find? fun x => decide (x.1 = k)) with
  | none => rw [hf] at h; cases h
  | some z =>
    rw [hf] at h
    have hz := List.find?_some hf
    have hm := List.mem_of_find?_eq_some hf
    obtain ⟨j, hj⟩ := List.mem_iff_getElem?.mp hm
    refine ⟨j, ?_⟩
    rw [hj]
    have e1 : z.1 = k := of_decide_eq_true hz
    have e2 : z.2 = p := by simpa using h
    rw [← e1, ← e2]
theorem atKey_none {xs : XT} {k : List Key} (h : atKey xs k = none) : ∀ (j : Nat) (q : Addr × Value), xs[j]? ≠ some (k, q) := by
  intro j q hj
  unfold atKey at h
  cases hf : (xs.find? fun x => decide (x.1 = k)) with
  | none =>
    have := List.find?_eq_none.mp hf (k, q) (List.mem_of_getElem? hj)
    simp at this
  | some z => rw [hf] at h; cases h
theorem hitsT {A : Around} {lvs : List (List Key × V)} {ls : List (D × D)} {xb : XT} (hb : DatT X.K B G lvs ls) (rb : KT H lvs xb) : ∀ {kvs : List (List Key × V)} {ks : List (D × D)} {xa : XT}, DatT X.K B G kvs ks → KT H kvs xa → AllB X B G s A ls ks → HitsH X.prog X.w A s xb xa (eqGk ls ks)
  | _, _, _, .nil, r, _ => by
    cases r
    rw [eqGk]
    exact .nil
  | _, _, _, .cons (k := i) (v := v) (d := d) (ds := ds) h t, r, al => by
    cases r with
    | cons h1 h2 =>
      rename_i q qs
      obtain ⟨qk, qa, qv⟩ := q
      obtain ⟨e1, _, e2⟩ := h1
      cases (show i = qk from e1)
      rw [eqGk]
      have rr := KT.val rb i
      rcases lookK_T hb i with ⟨n1, n2⟩ | ⟨y, dy, y1, y2, y3⟩
      · rw [n2]
        rw [n1] at rr
        have := rr.none_of
        refine .miss (atKey_none ?_)
        cases hk : atKey xb i with
        | none => rfl
        | some z => rw [hk] at this; cases this
      · rw [y2]
        rw [y1] at rr
        obtain ⟨u, hu, ru⟩ := rr.some_of
        obtain ⟨p, hp, hp2⟩ : ∃ p, atKey xb i = some p ∧ p.2 = u := by
          cases hk : atKey xb i with
          | none => rw [hk] at hu; cases hu
          | some z => rw [hk] at hu; exact ⟨z, rfl, by simpa using hu⟩
        obtain ⟨j, hj⟩ := atKey_some hp
        obtain ⟨pa, pv⟩ := p
        cases hp2
        exact .hit hj (al (embT i) d dy List.mem_cons_self y2 _ _ _ _ h y3 e2 ru) (hitsT hb rb t h2 al.tail)
theorem dk1_T (k : List Key) : dk1 (embT k) = none := rfl
theorem DatT.keysT : ∀ {vs : List (List Key × V)} {xs : List (D × D)}, DatT X.K B G vs xs → (xs.all fun z => (dk1 z.1).isSome) = true → vs = [] ∧ xs = []
  | _, _, .nil, _ => ⟨rfl, rfl⟩
  | _, _, .cons _ _, h => by simp [dk1_T] at h
theorem DatK.keysK : ∀ {vs : List (Key × V)} {xs : List (D × D)}, DatK X.K B G vs xs → (xs.all fun z => (dkT z.1).isSome) = true → vs = [] ∧ xs = []
  | _, _, .nil, _ => ⟨rfl, rfl⟩
  | _, _, .consI _ _, h => by simp [dkT] at h
  | _, _, .consS _ _, h => by simp [dkT] at h
/-- an empty dict is one of any keys -/
theorem emptyK {P : Program} {w : World} {h : Heap} {a : Addr} (d : h.DictOfH (tupleKind (mixKind P w)) a []) : h.DictOf (mixKind P w) a [] := by
  obtain ⟨o, es, ep, h1, h2, h3, h4, _, _⟩ := d
  have e : es = #[] := Array.toList_eq_nil_iff.mp (by rw [h4]; rfl)
  subst e
  exact ⟨o, #[], ep, h1, h2, h3, (fun e he => by simp at he), .nil, List.nodup_nil⟩
theorem emptyT {P : Program} {w : World} {h : Heap} {a : Addr} (d : h.DictOf (mixKind P w) a []) : h.DictOfH (tupleKind (mixKind P w)) a [] := by
  obtain ⟨o, es, ep, h1, h2, h3, h4, h5, h6⟩ := d
  have e : es = #[] := by
    have := h5.length
    apply Array.eq_empty_of_size_eq_zero
    simpa using this
  subst e
  exact ⟨o, #[], ep, h1, h2, h3, rfl, (fun x hx => by simp at hx), List.nodup_nil⟩
/-- what a datum that is a dict tells of the heap, by its keys -/
theorem dic_K (I : Inv X pins σ H s) (e : Ex G H) {x : V} {ks : List (D × D)} (h : Dat X.K B G x (.dic ks)) (hk : (ks.all fun z => (dk1 z.1).isSome) = true) : ∃ a kvs va, x = .ref a ∧ DatK X.K B G kvs ks ∧ KV kvs va ∧ (a == sysModules) = false ∧ s.heap.DictOf (mixKind X.prog X.w) a va := by
  cases h with
  | dK g t =>
    obtain ⟨_, hd, vs, rel, dd⟩ := dk_rd I.hok (.inr ⟨_, e _ _ g⟩)
    exact ⟨_, _, vs, rfl, t, rel, hd, dd⟩
  | dT g t =>
    obtain ⟨e1, e2⟩ := DatT.keysT t hk
    subst e1 e2
    obtain ⟨_, hd, xs, rel, dd⟩ := dt_rd I.hok (.inr ⟨_, e _ _ g⟩)
    cases rel
    exact ⟨_, [], [], rfl, .nil, Paired.nil, hd, emptyK dd⟩
theorem dic_T (I : Inv X pins σ H s) (e : Ex G H) {x : V} {ks : List (D × D)} (h : Dat X.K B G x (.dic ks)) (hk : (ks.all fun z => (dkT z.1).isSome) = true) : ∃ a kvs xa, x = .ref a ∧ DatT X.K B G kvs ks ∧ KT H kvs xa ∧ (a == sysModules) = false ∧ s.heap.DictOfH (tupleKind (mixKind X.prog X.w)) a xa := by
  cases h with
  | dT g t =>
    obtain ⟨_, hd, xs, rel, dd⟩ := dt_rd I.hok (.inr ⟨_, e _ _ g⟩)
    exact ⟨_, _, xs, rfl, t, rel, hd, dd⟩
  | dK g t =>
    obtain ⟨e1, e2⟩ := DatK.keysK t hk
    subst e1 e2
    obtain ⟨_, hd, vs, rel, dd⟩ := dk_rd I.hok (.inr ⟨_, e _ _ g⟩)
    have : vs = [] := by unfold KV at rel; cases rel; rfl
    subst this
    exact ⟨_, [], [], rfl, .nil, .nil, hd, emptyT dd⟩
end
end DL
namespace DL
open PySem PySem.Spec PyProof.Rows L2 Evl
def inFit (ks : List (D × D)) (y : D) : Bool := ((dk1 y).isSome && ks.all fun z => (dk1 z.1).isSome) || ((dkT y).isSome && ks.all fun z => (dkT z.1).isSome)
def oInK (neg : Bool) : O2 := fun y x Q => match x with
  | .dic ks => inFit ks y = true ∧ Q (.bl (if neg then !(lookK ks y).isSome else (lookK ks y).isSome))
  | _ => False
def gtK (d y : D) (Q : D → Prop) : Prop := match d with
  | .dic ks => match lookK ks y with
    | some v => Q v
    | none => False
  | _ => False
def dDGetK (r ry : DE) : DE := fun δ Q => r δ fun d => ry δ fun y => gtK d y Q
def cLenD : FD := fun ds Q => match ds with
  | [.dic ks] => Q (.int ks.length)
  | _ => False
section
variable {X : Cx} {B : Bx} {pins : List (Addr × Obj)} {σ : L2.St} {H G : Hp} {s : Shared} {e o i : Expr} {r ry rx : DE} {pos : Pos}
theorem DatK.len {K : PySem.W.Frag} : ∀ {kvs : List (Key × V)} {ks : List (D × D)}, DatK K B G kvs ks → kvs.length = ks.length
  | _, _, .nil => rfl
  | _, _, .consI _ t => by rw [List.length_cons, List.length_cons, DatK.len t]
  | _, _, .consS _ t => by rw [List.length_cons, List.length_cons, DatK.len t]
theorem DatT.len {K : PySem.W.Frag} : ∀ {kvs : List (List Key × V)} {ks : List (D × D)}, DatT K B G kvs ks → kvs.length = ks.length
  | _, _, .nil => rfl
  | _, _, .cons _ t => by rw [List.length_cons, List.length_cons, DatT.len t]
theorem inFit_or {ks : List (D × D)} {y : D} (h : inFit ks y = true) : (∃ k, dk1 y = some k ∧ (ks.all fun z => (dk1 z.1).isSome) = true) ∨ ∃ k, dkT y = some k ∧ (ks.all fun z => (dkT z.1).isSome) = true := by
  unfold inFit at h
  rcases Bool.or_eq_true_iff.mp h with h | h
  · have h := Bool.and_eq_true_iff.mp h
    obtain ⟨k, e⟩ := Option.isSome_iff_exists.mp h.1
    exact .inl ⟨k, e, h.2⟩
  · have h := Bool.and_eq_true_iff.mp h
    obtain ⟨k, e⟩ := Option.isSome_iff_exists.mp h.1
    exact .inr ⟨k, e, h.2⟩
theorem valueAt_look {kvs : List (Key × V)} {ks : List (D × D)} {va : List (Key × Value)} (hd : DatK X.K B G kvs ks) (rel : KV kvs va) (k : Key) : (valueAt va k).isSome = (lookK ks (embK k)).isSome := by
  rw [← (rel.val k).isSome_eq]
  rcases lookK_K hd k with ⟨a, b⟩ | ⟨v, d, a, b, _⟩ <;> rw [a, b] <;> rfl
theorem atKey_look {kvs : List (List Key × V)} {ks : List (D × D)} {xa : XT} (hd : DatT X.K B G kvs ks) (rel : KT H kvs xa) (k : List Key) : (atKey xa k).isSome = (lookK ks (embT k)).isSome := by
  have q := (rel.val k).isSome_eq
  rw [Option.isSome_map] at q
  rw [← q]
  rcases lookK_T hd k with ⟨a, b⟩ | ⟨v, d, a, b, _⟩ <;> rw [a, b] <;> rfl
theorem op_inK (hu : X.A.units + 1 < cLine) : OpR X (compareOp .In) (rLift X.K B (oInK false)) := by
  intro pins s σ H x y v u P I rx ry h
  obtain ⟨G, dx, dy, Q, j, hx, hy, hq, k⟩ := h
  cases dy with
  | dic ks =>
    obtain ⟨hf, q⟩ := hq
    rcases inFit_or hf with ⟨kk, e1, e2⟩ | ⟨kk, e1, e2⟩
    · obtain ⟨a, kvs, va, rfl, hd, rel, hs, dd⟩ := dic_K I j.ex hy e2
      cases ry
      have ek := keyV hx e1
      subst ek
      refine wpAny_in_of (kV_is rx) hs dd.mapOf ?_
      refine ⟨.bl _, H, I.tok _, rfl, ?_⟩
      rw [valueAt_look hd rel kk, ← emb_dk1 e1]
      exact k _ _ G H q (Gr.refl j) (.bl _)
    · obtain ⟨a, kvs, va, rfl, hd, rel, hs, dd⟩ := dic_T I j.ex hy e2
      cases ry
      obtain ⟨b, rfl, hb⟩ := keyT hx e1
      cases rx
      refine wpAny_in_heap (tupleKind_room_in1 hu) (key_of I.hok (j.ex _ _ hb)) hs dd ?_
      refine ⟨.bl _, H, I.tok _, rfl, ?_⟩
      rw [atKey_look hd rel kk, ← emb_dkT e1]
      exact k _ _ G H q (Gr.refl j) (.bl _)
  | _ => exact hq.elim
theorem look_keyK {ks : List (D × D)} {y w : D} (h : lookK ks y = some w) : (∃ k, dk1 y = some k) ∨ ∃ k, dkT y = some k := by
  unfold lookK at h
  obtain ⟨z, hz, _⟩ := Option.map_eq_some_iff.mp h
  have := List.find?_some hz
  unfold keqD at this
  cases h1 : dk1 y with
  | some k => exact .inl ⟨k, rfl⟩
  | none =>
    cases h2 : dkT y with
    | some k => exact .inr ⟨k, rfl⟩
    | none =>
      rw [h1, h2] at this
      split at this
      · rename_i e1 e2; cases e2
      · split at this
        · rename_i e1 e2; cases e2
        · cases this
theorem keq_KT (a : Key) (k : List Key) : keqD (embK a) (embT k) = false := by unfold keqD; rw [dk1_emb, dk1_T]; cases a <;> rfl
theorem dkT_K (a : Key) : dkT (embK a) = none := by cases a <;> rfl
theorem keq_TK (a : Key) (k : List Key) : keqD (embT k) (embK a) = false := by unfold keqD; rw [dk1_emb, dk1_T, dkT_K, dkT_emb]
theorem lookK_KT : ∀ {kvs : List (Key × V)} {ks : List (D × D)}, DatK X.K B G kvs ks → ∀ k : List Key, lookK ks (embT k) = none
  | _, _, .nil, k => rfl
  | _, _, .consI (i := i) h t, k => by
    rw [lookK_cons, if_neg (by rw [show D.int i = embK (.inl i) from rfl, keq_KT]; decide)]
    exact lookK_KT t k
  | _, _, .consS (x := i) h t, k => by
    rw [lookK_cons, if_neg (by rw [show D.str i = embK (.inr i) from rfl, keq_KT]; decide)]
    exact lookK_KT t k
theorem lookK_TK : ∀ {kvs : List (List Key × V)} {ks : List (D × D)}, DatT X.K B G kvs ks → ∀ k : Key, lookK ks (embK k) = none
  | _, _, .nil, k => rfl
  | _, _, .cons (k := i) h t, k => by
    rw [lookK_cons, if_neg (by rw [keq_TK]; decide)]
    exact lookK_TK t k
theorem pd_dgetK (hu : X.A.units + 1 < cLine) (ho : PD X B o r) (hi : PD X B i ry) (hs : NoSl i) : PD X B (.Subscript o i pos) (dDGetK r ry) := pe_mono (pe_dget hu ho hi hs) fun σ H P q => by
  obtain ⟨H0, G, δ, Q, j, st, hr, k⟩ := q
  refine ⟨H0, G, δ, _, j, st, hr, fun d v G2 H2 q2 g2 d2 => ?_⟩
  refine ⟨H0, G2, δ, _, g2.j, st.gr g2, q2, fun y u G3 H3 q3 g3 d3 => ?_⟩
  have d4 := d2.mono g3.ex
  have fin : ∀ w x, Q w → Dat X.K B G3 x w → P x H3 := fun w x qw dw => k w x G3 H3 qw (g2.trans g3) dw
  cases d4 with
  | @dK a od kvs ds h1 h2 =>
    unfold gtK at q3
    dsimp only at q3
    cases hl : lookK ds y with
    | none => rw [hl] at q3; exact q3.elim
    | some w =>
      rcases look_keyK hl with ⟨kk, e1⟩ | ⟨kk, e1⟩
      · have := emb_dk1 e1
        subst this
        rcases lookK_K (X := X) h2 kk with ⟨_, b⟩ | ⟨v', d', a', b', c'⟩
        · rw [hl] at b; cases b
        · rw [hl] at b'
          cases b'
          have q5 : Q w := by rw [hl] at q3; exact q3
          exact ⟨a, v', rfl, .inl ⟨kvs, kk, .inr ⟨od, g3.j.ex _ _ h1⟩, keyV d3 e1, a'.symm⟩, fin _ _ q5 c'⟩
      · have := emb_dkT e1
        subst this
        rw [lookK_KT (X := X) h2] at hl
        cases hl
  | @dT a od kvs ds h1 h2 =>
    unfold gtK at q3
    dsimp only at q3
    cases hl : lookK ds y with
    | none => rw [hl] at q3; exact q3.elim
    | some w =>
      rcases look_keyK hl with ⟨kk, e1⟩ | ⟨kk, e1⟩
      · have := emb_dk1 e1
        subst this
        rw [lookK_TK (X := X) h2] at hl
        cases hl
      · have := emb_dkT e1
        subst this
        rcases lookK_T (X := X) h2 kk with ⟨_, b⟩ | ⟨v', d', a', b', c'⟩
        · rw [hl] at b; cases b
        · rw [hl] at b'
          cases b'
          obtain ⟨b, eu, eb⟩ := keyT d3 e1
          have q5 : Q w := by rw [hl] at q3; exact q3
          exact ⟨a, v', rfl, .inr ⟨kvs, kk, b, .inr ⟨od, g3.j.ex _ _ h1⟩, eu, g3.j.ex _ _ eb, a'.symm⟩, fin _ _ q5 c'⟩
  | _ => exact q3.elim
end
section
variable {X : Cx} {B : Bx}
theorem call_lenDD : CallR X (.builtin "len") (cLift X.K B cLenD) := by
  intro pins s σ H vs us P I rv q
  obtain ⟨G, ds, Q, j, hd, hq, k⟩ := q
  cases hd with
  | nil => exact hq.elim
  | cons h1 h2 =>
    cases h2 with
    | cons _ _ => cases h1 <;> exact hq.elim
    | nil =>
      cases rv with
      | cons r1 r2 =>
        cases r2
        cases h1 with
        | @dK a od kvs ks h3 h4 =>
          cases r1
          have hq : Q (.int ks.length) := hq
          have el := h4.len
          refine d_len I (.inr ⟨od, j.ex _ _ h3⟩) fun t s' I' => ⟨.int kvs.length, H, I', ⟨t, rfl⟩, ?_⟩
          rw [el]
          exact k _ _ G H hq (Gr.refl j) (.int _)
        | @dT a od kvs ks h3 h4 =>
          cases r1
          have hq : Q (.int ks.length) := hq
          obtain ⟨z, hs, xa, rel, dd⟩ := dt_rd I.hok (.inr ⟨od, j.ex _ _ h3⟩)
          have el : xa.length = ks.length := by rw [← Paired.length rel, h4.len]
          refine call_len_dictH hs dd (by rw [el, ← h4.len]; rw [sizeLine_eq] at z; omega) ?_
          rw [el]
          exact ⟨.int ((ks.length : Nat) : Int), H, I.tok _, ⟨_, rfl⟩, k _ _ G H hq (Gr.refl j) (.int _)⟩
        | _ => exact hq.elim
end
def keysD (d : D) (Q : List D → Prop) : Prop := match d with
  | .dic ks => Q (ks.map (·.1))
  | _ => False
def iKeysD (r : DE) : DA := fun δ Q => r δ fun d => keysD d Q
section
variable {K : PySem.W.Frag} {B : Bx} {G : Hp} {d : Addr} {o : Obj}
theorem DatK.at : ∀ {kvs : List (Key × V)} {ks : List (D × D)}, DatK K B G kvs ks → ∀ {i : Nat} {k : Key} {v : V}, kvs[i]? = some (k, v) → ∃ x, ks[i]? = some (embK k, x) ∧ Dat K B G v x
  | _, _, .nil, _, _, _, h => nomatch h
  | _, _, .consI h1 _, 0, _, _, h => by cases h; exact ⟨_, rfl, h1⟩
  | _, _, .consS h1 _, 0, _, _, h => by cases h; exact ⟨_, rfl, h1⟩
  | _, _, .consI _ t, i + 1, _, _, h => DatK.at t (i := i) h
  | _, _, .consS _ t, i + 1, _, _, h => DatK.at t (i := i) h
theorem DatT.at : ∀ {kvs : List (List Key × V)} {ks : List (D × D)}, DatT K B G kvs ks → ∀ {i : Nat} {k : List Key} {v : V}, kvs[i]? = some (k, v) → ∃ x, ks[i]? = some (embT k, x) ∧ Dat K B G v x
  | _, _, .nil, _, _, _, h => nomatch h
  | _, _, .cons h1 _, 0, _, _, h => by cases h; exact ⟨_, rfl, h1⟩
  | _, _, .cons _ t, i + 1, _, _, h => DatT.at t (i := i) h
theorem dat_kV (k : Key) : Dat K B G (kV k) (embK k) := by cases k; exact .int _; exact .str _
theorem dats_kV : ∀ k : List Key, Dats K B G (k.map kV) (k.map embK)
  | [] => .nil
  | k :: ks => .cons (dat_kV k) (dats_kV ks)
/-- a tuple of numbers and texts that stands there is, or becomes, known -/
theorem Gr.tupK {H : Hp} {q : Addr} {k : List Key} (j : Jn K B G H) (h : H q = some (.tup (k.map kV))) : ∃ G2, Gr K B G H G2 H ∧ Dat K B G2 (.ref q) (embT k) := by
  cases g : G q with
  | none => exact ⟨_, Gr.learn j h g, .tup upd_same (dats_kV k)⟩
  | some o =>
    have := j.ex _ _ g
    rw [h] at this
    cases this
    exact ⟨G, Gr.refl j, .tup g (dats_kV k)⟩
theorem itd_keysK {kvs : List (Key × V)} {ks : List (D × D)} (h : G d = some (.frz o (.dK kvs))) (t : DatK K B G kvs ks) : ItD K B (Itk d o kvs) G (ks.map (·.1)) where
  go := fun i G1 H e j hi => ⟨j.ex _ _ (e _ _ h), by rw [t.len]; simpa using hi⟩
  yld := fun i G1 H x H' y e j yl hi => by
    obtain ⟨rfl, k, v, h1, rfl⟩ := yl
    obtain ⟨z, h2, _⟩ := t.at h1
    rw [List.getElem?_map, h2] at hi
    cases hi
    exact ⟨G1, Gr.refl j, dat_kV k⟩
  stop := fun i G1 H e j hi => ⟨j.ex _ _ (e _ _ h), by rw [t.len]; simpa using hi⟩
theorem itd_keysT {kvs : List (List Key × V)} {ks : List (D × D)} (h : G d = some (.frz o (.dT kvs))) (t : DatT K B G kvs ks) : ItD K B (Itkt d o kvs) G (ks.map (·.1)) where
  go := fun i G1 H e j hi => ⟨j.ex _ _ (e _ _ h), by rw [t.len]; simpa using hi⟩
  yld := fun i G1 H x H' y e j yl hi => by
    obtain ⟨rfl, k, v, q, h1, rfl, hq⟩ := yl
    obtain ⟨z, h2, _⟩ := t.at h1
    rw [List.getElem?_map, h2] at hi
    cases hi
    exact Gr.tupK j hq
  stop := fun i G1 H e j hi => ⟨j.ex _ _ (e _ _ h), by rw [t.len]; simpa using hi⟩
end
section
variable {X : Cx} {B : Bx} {e : Expr} {r : DE}
theorem pid_keys {tg : Expr} (he : PD X B e r) : PID X B tg e (iKeysD r) :=
  ⟨fun pins s σ H R I h => (pi_keys he).run pins s σ H R I (by
    obtain ⟨H0, G, δ, Q, j, st, hr, k⟩ := h
    refine ⟨H0, G, δ, _, j, st, hr, fun d v G2 H2 q2 g2 h2 => ?_⟩
    cases h2 with
    | dK h3 h4 => exact ⟨_, _, rfl, .inl ⟨_, g2.j.ex _ _ h3, k _ _ G2 H2 q2 g2 (itd_keysK h3 h4)⟩⟩
    | dT h3 h4 => exact ⟨_, _, rfl, .inr ⟨_, g2.j.ex _ _ h3, k _ _ G2 H2 q2 g2 (itd_keysT h3 h4)⟩⟩
    | _ => exact q2.elim)⟩
variable {δ : DS} {Q : D → Prop} {QL : List D → Prop} {ry : DE} {ks : List (D × D)} {y : D}
theorem z_dgetK : dDGetK r ry δ Q = r δ fun d => ry δ fun y => gtK d y Q := propext Iff.rfl
theorem z_inKD : oInK false y (.dic ks) Q = (inFit ks y = true ∧ Q (.bl (lookK ks y).isSome)) := propext Iff.rfl
theorem z_ninKD : oInK true y (.dic ks) Q = (inFit ks y = true ∧ Q (.bl (!(lookK ks y).isSome))) := propext Iff.rfl
theorem z_iKeys : iKeysD r δ QL = r δ fun d => keysD d QL := propext Iff.rfl
theorem z_keysD : keysD (.dic ks) QL = QL (ks.map (·.1)) := propext Iff.rfl
theorem z_lenD : cLenD [.dic ks] Q = Q (.int ks.length) := propext Iff.rfl
theorem z_gtK {w : D} (h : lookK ks y = some w) : gtK (.dic ks) y Q = Q w := by
  show (match lookK ks y with | some v => Q v | none => False) = _
  rw [h]
end
end DL
namespace DL
open PySem PySem.Spec PyProof.Rows L2 Evl PySem.W
section
variable {K : PySem.W.Frag} {B : Bx} {G H : Hp}
/-- tuples of numbers and texts that stand there become known -/
theorem Gr.tupKs (j : Jn K B G H) : ∀ {qs : List Addr} {kk : List (List Key)}, qs.length = kk.length → (∀ (i : Nat) (q : Addr) (k : List Key), qs[i]? = some q → kk[i]? = some k → H q = some (.tup (k.map kV))) → ∃ G2, Gr K B G H G2 H ∧ Dats K B G2 (qs.map V.ref) (kk.map embT)
  | [], [], _, _ => ⟨G, Gr.refl j, .nil⟩
  | q :: qs, k :: kk, hl, h => by
    obtain ⟨G2, g2, d2⟩ := Gr.tupKs j (qs := qs) (kk := kk) (by simpa using hl) fun i q' k' h1 h2 => h (i + 1) q' k' h1 h2
    obtain ⟨G3, g3, d3⟩ := Gr.tupK g2.j (h 0 q k rfl rfl)
    exact ⟨G3, g2.trans g3, .cons d3 (d2.mono g3.ex)⟩
  | [], _ :: _, hl, _ => by simp at hl
  | _ :: _, [], hl, _ => by simp at hl
theorem vals_of_get : ∀ {xs : List V} {vs : List Value}, xs.length = vs.length → (∀ (i : Nat) (a : V) (b : Value), xs[i]? = some a → vs[i]? = some b → RelV a b) → Vals xs vs
  | [], [], _, _ => .nil
  | x :: xs, v :: vs, hl, h => .cons (h 0 x v rfl rfl) (vals_of_get (by simpa using hl) fun i a b h1 h2 => h (i + 1) a b h1 h2)
  | [], _ :: _, hl, _ => by simp at hl
  | _ :: _, [], hl, _ => by simp at hl
theorem vals_refs : ∀ qs : List Addr, Vals (qs.map V.ref) (qs.map Value.ref)
  | [] => .nil
  | q :: qs => .cons rfl (vals_refs qs)
theorem datK_keys : ∀ {kvs : List (Key × V)} {ks : List (D × D)}, DatK K B G kvs ks → Dats K B G (kvs.map fun p => kV p.1) (ks.map (·.1))
  | _, _, .nil => .nil
  | _, _, .consI _ t => .cons (.int _) (datK_keys t)
  | _, _, .consS _ t => .cons (.str _) (datK_keys t)
theorem datT_keys : ∀ {kvs : List (List Key × V)} {ks : List (D × D)}, DatT K B G kvs ks → (kvs.map (·.1)).map embT = ks.map (·.1)
  | _, _, .nil => rfl
  | _, _, .cons _ t => by rw [List.map_cons, List.map_cons, List.map_cons, datT_keys t]
end
end DL
namespace DL
open PySem PySem.Spec PyProof.Rows L2 Evl PySem.W
def valsP (ks : List (D × D)) : Bool := ks.all fun z => plain z.2
def oEqD (neg : Bool) : O2 := fun x y Q => match x, y with
  | .dic ks, .dic ls => (valsP ks = true ∧ valsP ls = true ∧ kfit ks ls = true) ∧ Q (.bl (if neg then !eqG (.dic ks) (.dic ls) else eqG (.dic ks) (.dic ls)))
  | _, _ => False
section
variable {X : Cx} {B : Bx} {pins : List (Addr × Obj)} {σ : L2.St} {H G : Hp} {s : Shared}
theorem lookK_mem {ks : List (D × D)} {y v : D} (h : lookK ks y = some v) : ∃ k, (k, v) ∈ ks := by
  unfold lookK at h
  obtain ⟨z, hz, e⟩ := Option.map_eq_some_iff.mp h
  subst e
  exact ⟨z.1, List.mem_of_find?_eq_some hz⟩
theorem allB_plain (I : Inv X pins σ H s) (e : Ex G H) {A : Around} (hu : A.units + 64 < cLine) {ls ks : List (D × D)} (h1 : valsP ks = true) (h2 : valsP ls = true) : AllB X B G s A ls ks := fun k v y m l => by
  intro a b va vb ha hb ra rb
  obtain ⟨k', m'⟩ := lookK_mem l
  exact (eqB_plain I e hu (List.all_eq_true.mp h1 _ m) (List.all_eq_true.mp h2 _ m') ha hb ra rb).1
theorem kfit_or {ks ls : List (D × D)} (h : kfit ks ls = true) : ((ks.all fun z => (dk1 z.1).isSome) = true ∧ (ls.all fun z => (dk1 z.1).isSome) = true) ∨ ((ks.all fun z => (dkT z.1).isSome) = true ∧ (ls.all fun z => (dkT z.1).isSome) = true) := by
  unfold kfit at h
  rcases Bool.or_eq_true_iff.mp h with h | h
  · exact .inl (Bool.and_eq_true_iff.mp h)
  · exact .inr (Bool.and_eq_true_iff.mp h)
theorem op_eqDD (hu : X.A.units + 66 < cLine) : OpR X (compareOp .Eq) (rLift X.K B (oEqD false)) := by
  intro pins s σ H x y v u P I rx ry h
  obtain ⟨G, dx, dy, Q, j, hx, hy, hq, k⟩ := h
  cases dx with
  | dic ks =>
    cases dy with
    | dic ls =>
      obtain ⟨⟨p1, p2, kf⟩, q⟩ := hq
      have kk := k _ _ G H q (Gr.refl j) (.bl _)
      rcases kfit_or kf with ⟨f1, f2⟩ | ⟨f1, f2⟩
      · obtain ⟨a, kvs, va, rfl, d1, r1, s1, h1⟩ := dic_K I j.ex hx f1
        obtain ⟨b, lvs, vb, rfl, d2, r2, s2, h2⟩ := dic_K I j.ex hy f2
        cases rx
        cases ry
        refine rcP_dicts s1 s2 h1 h2 (by omega) (fun _ => hitsK d2 r2 d1 r1 (allB_plain I j.ex (show X.A.units + 1 + 64 < cLine by omega) p1 p2)) _ _ ?_
        refine ⟨.bl _, H, I, rfl, ?_⟩
        have e1 : va.length = ks.length := by rw [← Paired.length r1, d1.len]
        have e2 : vb.length = ls.length := by rw [← Paired.length r2, d2.len]
        rw [e1, e2]
        rw [eqG] at kk
        exact kk
      · obtain ⟨a, kvs, va, rfl, d1, r1, s1, h1⟩ := dic_T I j.ex hx f1
        obtain ⟨b, lvs, vb, rfl, d2, r2, s2, h2⟩ := dic_T I j.ex hy f2
        cases rx
        cases ry
        refine rcH_eq s1 s2 h1 h2 (by omega) (fun _ => hitsT d2 r2 d1 r1 (allB_plain I j.ex (show X.A.units + 1 + 64 < cLine by omega) p1 p2)) _ _ ?_
        refine ⟨.bl _, H, I, rfl, ?_⟩
        have e1 : va.length = ks.length := by rw [← Paired.length r1, d1.len]
        have e2 : vb.length = ls.length := by rw [← Paired.length r2, d2.len]
        rw [e1, e2]
        rw [eqG] at kk
        exact kk
    | _ => exact hq.elim
  | _ => exact hq.elim
end
mutual
def flat : D → Bool
  | .non => true
  | .bl _ => true
  | .int _ => true
  | .str _ => true
  | .tup xs => flatL xs
  | _ => false
def flatL : List D → Bool
  | [] => true
  | x :: xs => flat x && flatL xs
end
mutual
theorem reads_flat {h : Heap} : ∀ (d : D) (v : Value) (as : List Addr), flat d = true → Reads h v d.py as → as = []
  | .non, _, _, _, r => by rw [D.py] at r; cases r; rfl
  | .bl _, _, _, _, r => by rw [D.py] at r; cases r; rfl
  | .int _, _, _, _, r => by rw [D.py] at r; cases r; rfl
  | .str _, _, _, _, r => by rw [D.py] at r; cases r; rfl
  | .tup xs, _, _, f, r => by
    rw [D.py] at r
    cases r with
    | tuple _ _ _ h => exact readsAll_flat xs _ _ (by simpa [flat] using f) h
theorem readsAll_flat {h : Heap} : ∀ (ds : List D) (vs : List Value) (as : List Addr), flatL ds = true → ReadsAll h vs (pyL ds) as → as = []
  | [], _, _, _, r => by rw [pyL] at r; cases r; rfl
  | x :: xs, _, _, f, r => by
    rw [pyL] at r
    have f' : flat x = true ∧ flatL xs = true := by simpa [flatL] using f
    cases r with
    | cons h1 h2 => rw [reads_flat x _ _ f'.1 h1, readsAll_flat xs _ _ f'.2 h2]; rfl
end
def kpy (ks : List (D × D)) : PyData := .dict (ks.map fun z => (z.1.py, z.2.py))
def wtK (ks : List (D × D)) : Nat := (ks.map fun z => D.wt z.1 + D.wt z.2 + 4).sum
structure RepK (ks : List (D × D)) : Prop where
  vp : ∀ z ∈ ks, plain z.2 = true ∧ flat z.2 = true
  kp : ∀ z ∈ ks, plain z.1 = true ∧ flat z.1 = true
  wt : wtK ks ≤ 15000000
  kk : (ks.all fun z => (dk1 z.1).isSome) = true ∨ (ks.all fun z => (dkT z.1).isSome) = true
def cReprD : FD := fun ds Q => match ds with
  | [.dic ks] => RepK ks ∧ Q (.str (kpy ks).shown)
  | _ => False
theorem shownKv_len : ∀ {ks : List (D × D)}, (∀ z ∈ ks, plain z.2 = true ∧ flat z.2 = true) → (∀ z ∈ ks, plain z.1 = true ∧ flat z.1 = true) → ((PyData.shownKv (ks.map fun z => (z.1.py, z.2.py))).map fun t => t.length + 2).sum ≤ wtK ks
  | [], _, _ => by simp [PyData.shownKv, wtK]
  | z :: ks, h1, h2 => by
    have ih := shownKv_len (ks := ks) (fun z m => h1 z (List.mem_cons_of_mem _ m)) fun z m => h2 z (List.mem_cons_of_mem _ m)
    have a := py_len z.1 (Bool.and_eq_true_iff.mp (h2 z List.mem_cons_self).1).1
    have b := py_len z.2 (Bool.and_eq_true_iff.mp (h1 z List.mem_cons_self).1).1
    rw [List.map_cons, PyData.shownKv, List.map_cons, List.sum_cons, strLen_append, strLen_append]
    have e2 : ((": " : String) : Str).length = 2 := rfl
    unfold wtK at ih ⊢
    rw [List.map_cons, List.sum_cons]
    omega
theorem kpy_len {ks : List (D × D)} (h : RepK ks) : (kpy ks).shown.length ≤ sizeLine := by
  have a := shownKv_len h.vp h.kp
  have b := h.wt
  unfold kpy
  rw [PyData.shown]
  unfold dictText
  rw [strLen_append, strLen_append]
  have c := join_up (PyData.shownKv (ks.map fun z => (z.1.py, z.2.py)))
  have e1 : (("{" : String) : Str).length = 1 := rfl
  have e2 : (("}" : String) : Str).length = 1 := rfl
  rw [sizeLine_eq]
  omega
theorem kpy_show {ks : List (D × D)} (h1 : ∀ z ∈ ks, plain z.2 = true ∧ flat z.2 = true) (h2 : ∀ z ∈ ks, plain z.1 = true ∧ flat z.1 = true) : PyData.showableKv (ks.map fun z => (z.1.py, z.2.py)) = true := by
  induction ks with
  | nil => rfl
  | cons z ks ih =>
    rw [List.map_cons, PyData.showableKv, py_show z.1 (Bool.and_eq_true_iff.mp (h2 z List.mem_cons_self).1).1, py_show z.2 (Bool.and_eq_true_iff.mp (h1 z List.mem_cons_self).1).1,
      ih (fun z m => h1 z (List.mem_cons_of_mem _ m)) fun z m => h2 z (List.mem_cons_of_mem _ m)]
    rfl
theorem pyL_fine : ∀ {ds : List D}, (∀ d ∈ ds, D.fine d = true ∧ flat d = true) → fineL ds = true ∧ flatL ds = true
  | [], _ => ⟨rfl, rfl⟩
  | d :: ds, h => by
    have a := h d List.mem_cons_self
    have b := pyL_fine fun x m => h x (List.mem_cons_of_mem _ m)
    rw [fineL, flatL, a.1, a.2, b.1, b.2]
    exact ⟨rfl, rfl⟩
theorem plain_dep {d : D} (h : plain d = true) : d.py.depth ≤ 64 := by
  have h1 := Bool.and_eq_true_iff.mp h
  have h2 := py_dep d h1.1
  have h3 : d.dep ≤ 64 := of_decide_eq_true h1.2
  omega
theorem depthKv_le : ∀ {ks : List (D × D)}, (∀ z ∈ ks, plain z.2 = true ∧ flat z.2 = true) → (∀ z ∈ ks, plain z.1 = true ∧ flat z.1 = true) → PyData.depthKv (ks.map fun z => (z.1.py, z.2.py)) ≤ 64
  | [], _, _ => by rw [List.map_nil, PyData.depthKv]; omega
  | z :: ks, h1, h2 => by
    have ih := depthKv_le (ks := ks) (fun z m => h1 z (List.mem_cons_of_mem _ m)) fun z m => h2 z (List.mem_cons_of_mem _ m)
    have a := plain_dep (h1 z List.mem_cons_self).1
    have b := plain_dep (h2 z List.mem_cons_self).1
    rw [List.map_cons, PyData.depthKv]
    omega
section
variable {X : Cx} {B : Bx} {pins : List (Addr × Obj)} {σ : L2.St} {H G : Hp} {s : Shared}
theorem reads_dict (I : Inv X pins σ H s) (e : Ex G H) {a : Addr} {o : Obj} {es : Array DictEntry} {ep : Nat} {ks : List (D × D)} {kx vx : List V} (ho : s.heap.get? a = some o) (hx : o.ExactDict) (hd : o.data = .dict es ep)
    (rk : Vals kx (es.toList.map (·.key))) (rv : Vals vx (es.toList.map (·.val))) (dk : Dats X.K B G kx (ks.map (·.1))) (dv : Dats X.K B G vx (ks.map (·.2))) (h : RepK ks) : Reads s.heap (.ref a) (kpy ks) [a] := by
  have f1 := pyL_fine (ds := ks.map (·.1)) fun d m => by
    obtain ⟨z, hz, rfl⟩ := List.mem_map.mp m
    exact ⟨(Bool.and_eq_true_iff.mp (h.kp z hz).1).1, (h.kp z hz).2⟩
  have f2 := pyL_fine (ds := ks.map (·.2)) fun d m => by
    obtain ⟨z, hz, rfl⟩ := List.mem_map.mp m
    exact ⟨(Bool.and_eq_true_iff.mp (h.vp z hz).1).1, (h.vp z hz).2⟩
  obtain ⟨as, r1⟩ := Dp.readsAll I _ _ _ (dats_dp e dk f1.1) rk
  obtain ⟨bs, r2⟩ := Dp.readsAll I _ _ _ (dats_dp e dv f2.1) rv
  have e1 := readsAll_flat _ _ _ f1.2 r1
  have e2 := readsAll_flat _ _ _ f2.2 r2
  subst e1 e2
  have q1 : pyL (ks.map (·.1)) = (ks.map fun z => (z.1.py, z.2.py)).map (·.1) := by rw [pyL_map, List.map_map, List.map_map]; rfl
  have q2 : pyL (ks.map (·.2)) = (ks.map fun z => (z.1.py, z.2.py)).map (·.2) := by rw [pyL_map, List.map_map, List.map_map]; rfl
  rw [q1] at r1
  rw [q2] at r2
  exact .dict ho hx.1 hd r1 r2
theorem datK_vals {K : PySem.W.Frag} : ∀ {kvs : List (Key × V)} {ks : List (D × D)}, DatK K B G kvs ks → Dats K B G (kvs.map (·.2)) (ks.map (·.2))
  | _, _, .nil => .nil
  | _, _, .consI h t => .cons h (datK_vals t)
  | _, _, .consS h t => .cons h (datK_vals t)
theorem datT_vals {K : PySem.W.Frag} : ∀ {kvs : List (List Key × V)} {ks : List (D × D)}, DatT K B G kvs ks → Dats K B G (kvs.map (·.2)) (ks.map (·.2))
  | _, _, .nil => .nil
  | _, _, .cons h t => .cons h (datT_vals t)
theorem call_reprDD (hg : X.A.guards = some []) (hu : X.A.units + 70 < cLine) : CallR X (.builtin "repr") (cLift X.K B cReprD) := by
  intro pins s σ H vs us P I rv h
  obtain ⟨G, ds, Q, j, hd, hq, k⟩ := h
  cases hd with
  | nil => exact hq.elim
  | cons h1 h2 =>
    cases h2 with
    | cons _ _ => cases h1 <;> exact hq.elim
    | nil =>
      obtain ⟨u, rfl, ru⟩ := vals1 rv
      have fin : ∀ {a : Addr} {ks : List (D × D)}, RepK ks → Q (.str (kpy ks).shown) → (a == sysModules) = false → Reads s.heap (.ref a) (kpy ks) [a] → wpAny (model X.prog X.w) X.A (call (.builtin "repr") [.ref a]) (EP X pins σ P) X.xe s := fun {a ks} rk q hs r => by
        have dep : (kpy ks).depth ≤ 65 := by
          unfold kpy
          rw [PyData.depth]
          have := depthKv_le rk.vp rk.kp
          omega
        refine repr_of_reads' r (by unfold kpy; rw [PyData.showable]; exact kpy_show rk.vp rk.kp) (fun _ m => ?_) hg (by omega) (fun _ _ e => e) (fun h' u tk hk => ⟨.str _, H, I.kept hk, ⟨_, rfl⟩, k _ _ G H q (Gr.refl j) (.str _)⟩) (kpy_len rk)
        rw [List.mem_singleton] at m
        subst m
        simp at hs
      cases h1 with
      | @dK a od kvs ks h3 h4 =>
        cases ru
        obtain ⟨rk, q⟩ := (show RepK ks ∧ Q (.str (kpy ks).shown) from hq)
        obtain ⟨hs, hgd, hx, es, ep, vs, hdt, hsz, kv, hm⟩ := I.frzK (j.ex _ _ h3)
        have hvl : kvs.length = vs.length := Paired.length kv
        obtain ⟨es2, ep2, ⟨o2, ho2, hx2, hd2⟩, hsz2, hk2⟩ := Heap.DictOf.raw hm.dictOf
        have at_ : ∀ (i : Nat) (k1 : Key) (v1 : V) (en : DictEntry), kvs[i]? = some (k1, v1) → es2[i]? = some en → RelV (kV k1) en.key ∧ RelV v1 en.val := fun i k1 v1 en e1 e2 => by
          obtain ⟨u, e3, ru⟩ := kv_get kv e1
          obtain ⟨hi, e4⟩ := Array.getElem?_eq_some_iff.mp e2
          have := hk2 i hi k1 u e3
          rw [e4] at this
          exact ⟨relV_key this.1, by rw [this.2]; exact ru⟩
        refine fin rk q hs (reads_dict I j.ex (kx := kvs.map fun p => kV p.1) (vx := kvs.map (·.2)) ho2 hx2 hd2 ?_ ?_ (datK_keys h4) (datK_vals h4) rk)
        · refine vals_of_get (by rw [List.length_map, List.length_map, hvl, ← hsz2]; exact (Array.length_toList).symm) fun i a b ha hb => ?_
          rw [List.getElem?_map] at ha hb
          obtain ⟨⟨k1, v1⟩, e1, rfl⟩ := Option.map_eq_some_iff.mp ha
          obtain ⟨en, e2, rfl⟩ := Option.map_eq_some_iff.mp hb
          rw [Array.getElem?_toList] at e2
          exact (at_ i k1 v1 en e1 e2).1
        · refine vals_of_get (by rw [List.length_map, List.length_map, hvl, ← hsz2]; exact (Array.length_toList).symm) fun i a b ha hb => ?_
          rw [List.getElem?_map] at ha hb
          obtain ⟨⟨k1, v1⟩, e1, rfl⟩ := Option.map_eq_some_iff.mp ha
          obtain ⟨en, e2, rfl⟩ := Option.map_eq_some_iff.mp hb
          rw [Array.getElem?_toList] at e2
          exact (at_ i k1 v1 en e1 e2).2
      | @dT a od kvs ks h3 h4 =>
        cases ru
        obtain ⟨rk, q⟩ := (show RepK ks ∧ Q (.str (kpy ks).shown) from hq)
        obtain ⟨hgd, z, hs, xs, pr, o', es, ep, ho, hx, hdt, he, _⟩ := I.hok a _ (j.ex _ _ h3)
        rw [hgd] at ho
        cases ho
        have hxl : kvs.length = xs.length := Paired.length pr
        have hel : es.size = xs.length := size_of_entries he
        have hkeys : es.toList.map (·.key) = (xs.map fun x => x.2.1).map Value.ref := by rw [he, List.map_map, List.map_map]; rfl
        obtain ⟨G2, g2, d2⟩ := Gr.tupKs j (qs := xs.map fun x => x.2.1) (kk := kvs.map (·.1)) (by rw [List.length_map, List.length_map]; exact hxl.symm) fun i q kk e1 e2 => by
          rw [List.getElem?_map] at e1 e2
          obtain ⟨⟨k1, v1⟩, e3, rfl⟩ := Option.map_eq_some_iff.mp e2
          obtain ⟨b, hb, r1, r2, r3⟩ := paired_get pr e3
          rw [hb] at e1
          cases e1
          exact r2
        rw [datT_keys h4] at d2
        refine fin rk q hs (reads_dict I g2.j.ex (kx := (xs.map fun x => x.2.1).map V.ref) (vx := kvs.map (·.2)) hgd hx hdt ?_ ?_ d2 ((datT_vals h4).mono g2.ex) rk)
        · rw [hkeys]
          exact vals_refs _
        · refine vals_of_get (by rw [List.length_map, List.length_map, hxl, ← hel]; exact (Array.length_toList).symm) fun i a b ha hb => ?_
          rw [List.getElem?_map] at ha hb
          obtain ⟨⟨k1, v1⟩, e1, rfl⟩ := Option.map_eq_some_iff.mp ha
          obtain ⟨en, e2, rfl⟩ := Option.map_eq_some_iff.mp hb
          obtain ⟨b, hb2, r1, r2, r3⟩ := paired_get pr e1
          rw [he, List.getElem?_map, hb2] at e2
          cases e2
          exact r3
      | _ => exact hq.elim
section
variable {Q : D → Prop} {ks ls : List (D × D)}
theorem z_eqDD : oEqD false (.dic ks) (.dic ls) Q = ((valsP ks = true ∧ valsP ls = true ∧ kfit ks ls = true) ∧ Q (.bl (eqG (.dic ks) (.dic ls)))) := propext Iff.rfl
theorem z_reprD : cReprD [.dic ks] Q = (RepK ks ∧ Q (.str (kpy ks).shown)) := propext Iff.rfl
end
end
end DL
namespace DL
open PySem PySem.Spec PyProof.Rows L2 Evl
def oEqA : O2 := fun x y Q => match x, y with
  | .dic ks, .dic ls => oEqD false (.dic ks) (.dic ls) Q
  | x, y => oEq x y Q
def cReprA : FD := fun ds Q => match ds with
  | [.dic ks] => cReprD [.dic ks] Q
  | ds => cRepr ds Q
section
variable {X : Cx} {B : Bx} {Q : D → Prop} {ks ls : List (D × D)} {xs : List D} {y : D}
theorem z_eqAd : oEqA (.dic ks) (.dic ls) Q = oEqD false (.dic ks) (.dic ls) Q := propext Iff.rfl
theorem z_eqAl : oEqA (.lst xs) y Q = oEq (.lst xs) y Q := propext Iff.rfl
theorem z_eqAt : oEqA (.tup xs) y Q = oEq (.tup xs) y Q := propext Iff.rfl
theorem z_eqAi {i : Int} : oEqA (.int i) y Q = oEq (.int i) y Q := propext Iff.rfl
theorem z_eqAs {i : Str} : oEqA (.str i) y Q = oEq (.str i) y Q := propext Iff.rfl
theorem z_eqAb {i : Bool} : oEqA (.bl i) y Q = oEq (.bl i) y Q := propext Iff.rfl
theorem z_eqAn : oEqA .non y Q = oEq .non y Q := propext Iff.rfl
theorem z_rpAd : cReprA [.dic ks] Q = cReprD [.dic ks] Q := propext Iff.rfl
theorem z_rpAl : cReprA [.lst xs] Q = cRepr [.lst xs] Q := propext Iff.rfl
theorem z_rpAt : cReprA [.tup xs] Q = cRepr [.tup xs] Q := propext Iff.rfl
theorem z_rpAi {i : Int} : cReprA [.int i] Q = cRepr [.int i] Q := propext Iff.rfl
theorem z_rpAs {i : Str} : cReprA [.str i] Q = cRepr [.str i] Q := propext Iff.rfl
theorem z_rpAb {i : Bool} : cReprA [.bl i] Q = cRepr [.bl i] Q := propext Iff.rfl
theorem z_rpAn : cReprA [.non] Q = cRepr [.non] Q := propext Iff.rfl
theorem op_eqA (hu : X.A.units + 66 < cLine) : OpR X (compareOp .Eq) (rLift X.K B oEqA) := by
  intro pins s σ H x y v u P I rx ry h
  obtain ⟨G, dx, dy, Q, j, hx, hy, hq, k⟩ := h
  by_cases e : ∃ ks ls, dx = .dic ks ∧ dy = .dic ls
  · obtain ⟨ks, ls, rfl, rfl⟩ := e
    exact op_eqDD hu pins s σ H x y v u P I rx ry ⟨G, _, _, Q, j, hx, hy, hq, k⟩
  · refine op_eq_d (by omega) pins s σ H x y v u P I rx ry ⟨G, dx, dy, Q, j, hx, hy, ?_, k⟩
    cases dx with
    | dic ks =>
      cases dy with
      | dic ls => exact absurd ⟨ks, ls, rfl, rfl⟩ e
      | _ => exact hq
    | _ => exact hq
theorem call_reprA (hg : X.A.guards = some []) (hu : X.A.units + 70 < cLine) : CallR X (.builtin "repr") (cLift X.K B cReprA) := by
  intro pins s σ H vs us P I rv h
  obtain ⟨G, ds, Q, j, hd, hq, k⟩ := h
  by_cases e : ∃ ks, ds = [.dic ks]
  · obtain ⟨ks, rfl⟩ := e
    exact call_reprDD hg hu pins s σ H vs us P I rv ⟨G, _, Q, j, hd, hq, k⟩
  · refine call_repr_d hg hu pins s σ H vs us P I rv ⟨G, ds, Q, j, hd, ?_, k⟩
    match ds, e, hq with
    | [.dic ks], e, _ => exact absurd ⟨ks, rfl⟩ e
    | [], _, h => exact h
    | [.non], _, h => exact h
    | [.bl _], _, h => exact h
    | [.int _], _, h => exact h
    | [.str _], _, h => exact h
    | [.lst _], _, h => exact h
    | [.tup _], _, h => exact h
    | [.ktup _], _, h => exact h
    | [.obj _ _], _, h => exact h
    | [.bag], _, h => exact h
    | a :: b :: c, _, h => cases a <;> exact h
end
end DL
namespace DL
open PySem PySem.Spec PyProof.Rows L2 Evl
end DL
namespace DL
open PySem PySem.Spec PyProof.Rows L2 Evl
section
variable {K : PySem.W.Frag} {B : Bx} {G H G2 H2 : Hp}
theorem OwnT.gr {v : List (List Key × V)} {o : List (D × OD)} {f : List Addr} (h : OwnT K B G H v o f) (g : Gr K B G H G2 H2) (hf : ∀ p ∈ f, B.nb p) : OwnT K B G2 H2 v o f := h.keep g.ex (g.kept fun p hp => ⟨(h.node p hp).at, hf p hp⟩)
end
end DL
namespace L2
open PySem PySem.Spec PyProof.Rows
end L2
namespace DL
open PySem PySem.Spec PyProof.Rows L2 Evl
end DL
namespace L2
open PySem PySem.Spec PyProof.Rows
section
variable {X : Cx}
def PrT (K : PySem.W.Frag) (H : Hp) (p : Addr) (kv : List Key × V) : Prop := ∃ b, SqT K H p [V.ref b, kv.2] ∧ H b = some (.tup (kv.1.map kV))
theorem pairsT_of {pins : List (Addr × Obj)} {σ : St} {H : Hp} {s : Shared} (I : Inv X pins σ H s) : ∀ {ps : List Addr} {kvs : List (List Key × V)}, Paired (PrT X.K H) ps kvs →
    ∃ prs : List (List Key × Addr × Value), KT H kvs prs ∧ prs.length = ps.length ∧ ∀ (j : Nat) (q : List Key × Addr × Value), prs[j]? = some q → ∃ b : Addr, ps[j]? = some b ∧ IsTup s.heap b #[.ref q.2.1, q.2.2] ∧ H q.2.1 = some (.tup (q.1.map kV))
  | _, _, .nil => ⟨[], .nil, rfl, fun j q e => by simp at e⟩
  | _, _, .cons (a := p) (b := kv) ⟨b, h, hb⟩ t => by
    obtain ⟨prs, r, hl, hp⟩ := pairsT_of I t
    obtain ⟨its, rv, ht, _⟩ := I.tuple h
    obtain ⟨u, y, ei, ru, ry⟩ := vals2 rv
    subst ei
    cases (show u = Value.ref b from ru)
    refine ⟨(kv.1, b, y) :: prs, .cons ⟨rfl, hb, ry⟩ r, by rw [List.length_cons, List.length_cons, hl], fun j q e => ?_⟩
    cases j with
    | zero =>
      cases e
      exact ⟨p, rfl, ht, hb⟩
    | succ j =>
      obtain ⟨b', e1, e2, e3⟩ := hp j q (by simpa using e)
      exact ⟨b', by simpa using e1, e2, e3⟩
/-- dict(xs) of a list of pairs (tuple, value), the keys unlike -/
theorem call_dictPT (hcalm : X.calm = true) (hu : X.A.units + 2 < cLine) : CallR X (.type "dict") (fun xs H Q => ∃ (a : Addr) (ps : List Addr) (kvs : List (List Key × V)), xs = [.ref a] ∧ SqL X.K H a (ps.map V.ref) ∧ Paired (PrT X.K H) ps kvs ∧ (kvs.map (·.1)).Nodup ∧
    ∀ p, H p = none → Q (.ref p) (upd H p (.dT kvs))) := by
  intro pins s σ H xs us Q I r q
  obtain ⟨a, ps, kvs, ex, hq, hp, hn, q⟩ := q
  subst ex
  obtain ⟨u, eu, rx⟩ := vals1 r
  subst eu
  cases rx
  obtain ⟨its, rv, pl, hz⟩ := I.list hq
  have ei := refs_at rv
  subst ei
  rw [List.length_map] at hz
  obtain ⟨prs, rel, hl, hpr⟩ := pairsT_of I hp
  obtain ⟨o, n, ho, hc, hd, hdat⟩ := pl
  have hkn : (prs.map (·.1)).Nodup := by
    have : prs.map (·.1) = kvs.map (·.1) := by
      clear hpr hl hn q hp hz rv hq hdat
      induction rel with
      | nil => rfl
      | cons h _ ih => rw [List.map_cons, List.map_cons, ih, h.1]
    rw [this]
    exact hn
  refine call_dict_pairsH (knd := tupleKind (mixKind X.prog X.w)) (ps := prs) (PairArg.list a (ps.map Value.ref).toArray (fun j => ps.getD j 0) (prs.map fun q => (Value.ref q.2.1, q.2.2))) (I.ok.hd hcalm) (tupleKind_room_in1 (A := X.A.in1) hu) ?_ ?_ ?_ ?_ ?_
  · refine ⟨⟨o, n, ho, hc, hd, hdat⟩, by simp [hl], fun j k v e => ?_⟩
    rw [List.getElem?_map] at e
    obtain ⟨q0, e1, e2⟩ := Option.map_eq_some_iff.mp e
    cases e2
    obtain ⟨b, h1, h2, _⟩ := hpr j q0 e1
    refine ⟨by simp [h1], .inl ?_⟩
    show s.heap.IsTuple (ps.getD j 0) _
    rw [List.getD_eq_getElem?_getD, h1]
    obtain ⟨o1, a1, a2, n1, a3⟩ := h2
    exact ⟨o1, a1, a2, n1, a3⟩
  · refine ⟨by simp, fun i key v e => ?_⟩
    have e : (prs.map fun q => (Value.ref q.2.1, q.2.2))[i]? = some (key, v) := e
    rw [List.getElem?_map] at e
    obtain ⟨q0, e1, e2⟩ := Option.map_eq_some_iff.mp e
    cases e2
    exact ⟨q0.1, q0.2.1, e1, rfl⟩
  · intro h' hk x hx
    obtain ⟨i, hi, e⟩ := List.getElem_of_mem hx
    obtain ⟨b, h1, h2, h3⟩ := hpr i x (by rw [List.getElem?_eq_getElem hi, e])
    obtain ⟨o1, its, n1, a1, a2, a3, a4⟩ := key_of I.hok h3
    exact ⟨o1, its, n1, hk _ _ (Nat.ne_of_lt (Heap.lt_size a1)) (by simp) a1, a2, a3, a4⟩
  · rw [List.length_map, hl]
    exact hz
  · intro h' tk hd' hk
    rw [storedAllH_nil_of_nodup _ hkn] at hd'
    have hm : (s.heap.objs.size == sysModules) = false := beq_eq_false_iff_ne.mpr (Nat.ne_of_gt I.big)
    have hlen : kvs.length ≤ sizeLine := by rw [Paired.length rel, hl]; exact hz
    have hk' : ∀ b o, s.heap.get? b = some o → h'.get? b = some o := fun b o e => hk b o (by simp) e
    have dd : ∃ o es ep, h'.get? s.heap.objs.size = some o ∧ o.ExactDict ∧ o.data = .dict es ep ∧ es.toList = prs.map (entryOfKey (tupleKind (mixKind X.prog X.w))) ∧ (prs.map (·.1)).Nodup := by
      obtain ⟨o1, es, ep, b1, b2, b3, b4, b5, b6⟩ := hd'
      exact ⟨o1, es, ep, b1, b2, b3, b4, b6⟩
    exact ⟨.ref s.heap.objs.size, upd H s.heap.objs.size (.dT kvs), I.laid (t' := tk) hk' (Nat.le_refl _) ⟨hlen, hm, prs, rel.keeps fun c ys e => (upd_ne (ne_of_none e (I.hok.fresh (Nat.le_refl _)))).trans e, dd⟩, rfl, q _ (I.hok.fresh (Nat.le_refl _))⟩
end
end L2
namespace DL
open PySem PySem.Spec PyProof.Rows L2 Evl
inductive Prs (K : PySem.W.Frag) (B : Bx) (G H : Hp) : List Addr → List (List Key × V) → List (D × OD) → List Addr → Prop
  | nil : Prs K B G H [] [] [] []
  | cons {t b : Addr} {k : List Key} {v : V} {o : OD} {f g : List Addr} {ts : List Addr} {kvs : List (List Key × V)} {os : List (D × OD)} : H t = some (.tup [.ref b, v]) → H b = some (.tup (k.map kV)) → Own K B G H v o f → Prs K B G H ts kvs os g → Prs K B G H (t :: ts) ((k, v) :: kvs) ((embT k, o) :: os) (f ++ g)
abbrev OP := DS → (List (D × OD) → Prop) → Prop
section
variable {K : PySem.W.Frag} {B : Bx} {G H G2 H2 : Hp}
theorem Prs.own : ∀ {ts : List Addr} {kvs : List (List Key × V)} {os : List (D × OD)} {f : List Addr}, Prs K B G H ts kvs os f → OwnT K B G H kvs os f
  | _, _, _, _, .nil => .nil
  | _, _, _, _, .cons _ _ h t => .cons h t.own
theorem Prs.prt : ∀ {ts : List Addr} {kvs : List (List Key × V)} {os : List (D × OD)} {f : List Addr}, Prs K B G H ts kvs os f → Paired (PrT K H) ts kvs
  | _, _, _, _, .nil => .nil
  | _, _, _, _, .cons h1 h2 _ t => .cons ⟨_, st_of h1, h2⟩ t.prt
theorem Prs.keys : ∀ {ts : List Addr} {kvs : List (List Key × V)} {os : List (D × OD)} {f : List Addr}, Prs K B G H ts kvs os f → (kvs.map (·.1)).map embT = os.map (·.1)
  | _, _, _, _, .nil => rfl
  | _, _, _, _, .cons _ _ _ t => by rw [List.map_cons, List.map_cons, List.map_cons, t.keys]
theorem Prs.len : ∀ {ts : List Addr} {kvs : List (List Key × V)} {os : List (D × OD)} {f : List Addr}, Prs K B G H ts kvs os f → ts.length = os.length
  | _, _, _, _, .nil => rfl
  | _, _, _, _, .cons _ _ _ t => by rw [List.length_cons, List.length_cons, t.len]
theorem Prs.keep (e : Ex G G2) (hk : ∀ a o, H a = some (.tup o) → H2 a = some (.tup o)) : ∀ {ts : List Addr} {kvs : List (List Key × V)} {os : List (D × OD)} {f : List Addr}, Prs K B G H ts kvs os f → Kept G H G2 H2 f → Prs K B G2 H2 ts kvs os f
  | _, _, _, _, .nil, _ => .nil
  | _, _, _, _, .cons h1 h2 h t, k => .cons (hk _ _ h1) (hk _ _ h2) (h.keep e k.l) (Prs.keep e hk t k.r)
theorem Prs.append : ∀ {ts us : List Addr} {kvs lvs : List (List Key × V)} {os ps : List (D × OD)} {f g : List Addr}, Prs K B G H ts kvs os f → Prs K B G H us lvs ps g → Prs K B G H (ts ++ us) (kvs ++ lvs) (os ++ ps) (f ++ g)
  | _, _, _, _, _, _, _, _, .nil, h => h
  | _, _, _, _, _, _, _, _, .cons h1 h2 h t, h3 => by
    rw [List.append_assoc]
    exact .cons h1 h2 h (t.append h3)
theorem Jn.noTup (j : Jn K B G H) {a : Addr} {o : List V} (e : H a = some (.tup o)) : B.st a := by
  refine ⟨fun z => ?_, fun t h z => ?_⟩
  · obtain ⟨_, _, _, _, ho, _⟩ := j.bag
    rw [← z, e] at ho
    cases ho
  · obtain ⟨⟨ps, h1, _⟩, _⟩ := j.xt.tb t h
    rw [← z, e] at h1
    cases h1
theorem Gr.keepT (j : Jn K B G H) (g : Gr K B G H G2 H2) : ∀ a o, H a = some (.tup o) → H2 a = some (.tup o) := fun a o e => g.kp a _ (j.noTup e) e
theorem Prs.gr {ts : List Addr} {kvs : List (List Key × V)} {os : List (D × OD)} {f : List Addr} (j : Jn K B G H) (h : Prs K B G H ts kvs os f) (g : Gr K B G H G2 H2) (hf : ∀ p ∈ f, B.nb p) : Prs K B G2 H2 ts kvs os f := h.keep g.ex (g.keepT j) (g.kept fun p hp => ⟨(h.own.node p hp).at, hf p hp⟩)
theorem Prs.upd {ts : List Addr} {kvs : List (List Key × V)} {os : List (D × OD)} {f : List Addr} {p : Addr} {o : HO} (h : Prs K B G H ts kvs os f) (hp : ∀ vs, H p ≠ some (.tup vs)) (np : p ∉ f) : Prs K B G (upd H p o) ts kvs os f :=
  h.keep (Ex.refl _) (fun a o e => by rw [upd_ne (fun z => hp _ (z ▸ e))]; exact e) fun q hq => ⟨upd_ne fun z => by subst z; exact np hq, rfl⟩
end
end DL
namespace DL
open PySem PySem.Spec PyProof.Rows L2 Evl
section
variable {ra : DE} {δ : DS} {Q : List D → Prop} {r rb : OP} {QO : OD → Prop} {QP : List (D × OD) → Prop} {ri : DA} {g : DG} {tt : DT} {tk : DE} {tv : OE} {vs : List Nat} {xs : List D}
theorem room_u2 {k : Nat} {A : Around} (h : Room k A) : A.units + 2 < cLine := by have := h.un; omega
end
end DL
namespace DL
open PySem PySem.Spec PyProof.Rows L2 Evl
end DL
namespace DL
open PySem PySem.Spec PyProof.Rows L2 Evl
end DL
namespace L2
open PySem PySem.Spec PyProof.Rows
end L2
namespace DL
open PySem PySem.Spec PyProof.Rows L2 Evl
end DL
namespace DL
open PySem PySem.Spec PyProof.Rows L2 Evl
def updT (kvs lvs : List (List Key × V)) : List (List Key × V) := lvs.foldl (fun acc z => putK acc z.1 z.2) kvs
theorem KT.upd {H : Hp} : ∀ {lvs : List (List Key × V)} {la : XT} {kvs : List (List Key × V)} {xa : XT}, KT H lvs la → KT H kvs xa → KT H (updT kvs lvs) (storedAllH xa la)
  | _, _, _, _, .nil, h => h
  | _, _, _, _, .cons (a := z) (b := y) ⟨h1, h2, h3⟩ t, h => by
    have := KT.upd t (h.put z.1 h2 h3)
    obtain ⟨y1, y2, y3⟩ := y
    cases h1
    exact this
section
variable {K : PySem.W.Frag} {B : Bx} {G H : Hp}
theorem OwnT.put1 {k : List Key} {v : V} {d : D} (hd : Dat K B G v d) {vs : List (List Key × V)} {xs : List (D × OD)} {f : List Addr} (h : OwnT K B G H vs xs f) (nd : f.Nodup) : ∃ f', OwnT K B G H (putK vs k v) (putO xs (embT k) (.sh d)) f' ∧ f'.Nodup ∧ ∀ q ∈ f', q ∈ f := by
  unfold putK putO
  rw [h.any]
  by_cases c : (xs.any fun z => keqD z.1 (embT k)) = true
  · rw [if_pos c, if_pos c]
    exact OwnT.repl hd h nd fun q _ => ⟨rfl, rfl⟩
  · rw [if_neg c, if_neg c]
    exact ⟨f ++ [], OwnT.snoc (.sh hd) h, by rw [List.append_nil]; exact nd, fun q hq => by rw [List.append_nil] at hq; exact hq⟩
theorem OwnT.upd : ∀ {lvs : List (List Key × V)} {ls : List (D × D)}, DatT K B G lvs ls → ∀ {vs : List (List Key × V)} {xs : List (D × OD)} {f : List Addr}, OwnT K B G H vs xs f → f.Nodup → ∃ f', OwnT K B G H (updT vs lvs) (ls.foldl (fun acc z => putO acc z.1 (.sh z.2)) xs) f' ∧ f'.Nodup ∧ ∀ q ∈ f', q ∈ f
  | _, _, .nil, _, _, f, h, nd => ⟨f, h, nd, fun _ z => z⟩
  | _, _, .cons hd t, _, _, f, h, nd => by
    obtain ⟨f1, h1, n1, s1⟩ := OwnT.put1 hd h nd
    obtain ⟨f2, h2, n2, s2⟩ := OwnT.upd t h1 n1
    exact ⟨f2, h2, n2, fun q hq => s1 q (s2 q hq)⟩
end
end DL
namespace DL
open PySem PySem.Spec PyProof.Rows L2 Evl
end DL
namespace DL
open PySem PySem.Spec PyProof.Rows L2 Evl
end DL
namespace DL
open PySem PySem.Spec PyProof.Rows L2 Evl
section
variable {X : Cx} {B : Bx}
theorem scal_dats {K : PySem.W.Frag} {G G2 : Hp} : ∀ {vs : List V} {ds : List D}, Dats K B G vs ds → ds.all scal = true → Dats K B G2 vs ds
  | _, _, .nil, _ => .nil
  | _, _, .cons h t, s => by
    rw [List.all_cons, Bool.and_eq_true] at s
    exact .cons (scal_dat h s.1) (scal_dats t s.2)
end
end DL
namespace DL
open PySem PySem.Spec PyProof.Rows L2 Evl
end DL
namespace L2
open PySem PySem.Spec PyProof.Rows
end L2
namespace DL
open PySem PySem.Spec PyProof.Rows L2 Evl PySem.W
end DL
namespace DL
open PySem PySem.Spec PyProof.Rows L2 Evl
end DL
namespace PySem.W
open PySem PySem.Spec PyProof.Rows
end PySem.W
namespace DL
open PySem PySem.Spec PyProof.Rows L2 Evl PySem.W
section
variable {Q : D → Prop} {ks ls : List (D × D)}
theorem z_neDD : oEqD true (.dic ks) (.dic ls) Q = ((valsP ks = true ∧ valsP ls = true ∧ kfit ks ls = true) ∧ Q (.bl (!eqG (.dic ks) (.dic ls)))) := propext Iff.rfl
end
end DL
namespace L2
open PySem PySem.Spec PyProof.Rows
end L2
namespace DL
open PySem PySem.Spec PyProof.Rows L2 Evl
end DL
namespace L2
open PySem PySem.Spec PyProof.Rows
section
variable {X : Cx} {e a b : Expr} {t t' ta tb te : TE} {pos : Pos}
theorem PSsT.nox {st : List Stmt} {t : TS} (h : PSsT X.nox st t) : PSsT X st t := fun pins s σ H D h0 I hw =>
  wpAny_mono (h pins s σ H D h0 (I.wish _) hw) (fun _ _ q => q.unwish) fun _ _ z => False.elim z
end
end L2
namespace DL
open PySem PySem.Spec PyProof.Rows L2 Evl
end DL
namespace DL
open PySem PySem.Spec PyProof.Rows L2 Evl
end DL
namespace DL
open PySem PySem.Spec PyProof.Rows L2 LamX NdefX
end DL
namespace DL
open PySem PySem.Spec PyProof.Rows L2 Evl
/-- the wish about exceptions: the class's number, the field's name, what it holds -/
abbrev XW := Nat → Str → D → Prop
def XL (K : PySem.W.Frag) (B : Bx) (Wx : XW) : XK := fun cls d H' => ∃ (G' : Hp) (c : Nat) (f : Str) (y : D) (v : V) (dd : Addr), Wx c f y ∧ Jn K B G' H' ∧ cls = .ref (B.ct c) ∧ d = some dd ∧ H' dd = some (.xd [(f, v)]) ∧ Dat K B G' v y
theorem XL.imp {K : PySem.W.Frag} {B : Bx} {Wx W2 : XW} (h : ∀ c f y, Wx c f y → W2 c f y) {cls : Value} {d : Option Addr} {H : Hp} (x : XL K B Wx cls d H) : XL K B W2 cls d H := by
  obtain ⟨G', c, f, y, v, dd, a, b⟩ := x
  exact ⟨G', c, f, y, v, dd, h _ _ _ a, b⟩
end DL
namespace DL
open PySem PySem.Spec PyProof.Rows L2 Evl
end DL
namespace DL
open PySem PySem.Spec PyProof.Rows L2 Evl
end DL
namespace DL
open PySem PySem.Spec PyProof.Rows L2 LamX
end DL
namespace DL
open PySem PySem.Spec PyProof.Rows L2 Evl LamX
/-- nothing is new, or one code object, written into the table at P -/
def Mk1 (H : Hp) (P : Addr) (q : Str) (c' : Addr) (H1 : Hp) : Prop := H1 = H ∨ (H c' = none ∧ ∃ ps ps' : Array Value, H P = some (.tbl ps) ∧ H1 = upd (upd H P (.tbl ps')) c' (CodeO c' q) ∧ TriplesOk ps'.toList ∧
  ∀ (pos : Pos) (cv : Value), codeAmong pos ps'.toList = some cv → codeAmong pos ps.toList = some cv ∨ cv = .ref c')
section
variable {K : PySem.W.Frag} {B : Bx} {G H H1 : Hp} {P c' : Addr} {q : Str}
/-- behind the making of a lambda: all stands, its code object is known -/
theorem Gr.tab (j : Jn K B G H) (hm : (P, q) ∈ B.tb) (hu : ∀ t ∈ B.tb, t.1 = P → t.2 = q) (m : Mk1 H P q c' H1) : ∃ G1, Gr K B G H G1 H1 := by
  rcases m with rfl | ⟨hc, ps, ps', hP, rfl, ht, ha⟩
  · exact ⟨G, Gr.refl j⟩
  · have gc : G c' = none := fresh_back j.ex hc
    obtain ⟨⟨ps0, z1, z2, z3⟩, gP⟩ := j.xt.tb _ hm
    have z1 : H P = some (.tbl ps0) := z1
    rw [hP] at z1
    cases z1
    have nPc : P ≠ c' := ne_of_none hP hc
    have bagb : ∃ xs, H B.b = some (.lst xs) := let ⟨_, _, _, _, h, _⟩ := j.bag; ⟨_, h⟩
    have nbP : B.b ≠ P := fun e => by
      obtain ⟨xs, h⟩ := bagb
      rw [e, hP] at h
      cases h
    have nbc : B.b ≠ c' := fun e => by
      obtain ⟨xs, h⟩ := bagb
      rw [e, hc] at h
      cases h
    have at1 : ∀ a, a ≠ P → a ≠ c' → upd (upd H P (.tbl ps')) c' (CodeO c' q) a = H a := fun a h1 h2 => by rw [upd_ne h2, upd_ne h1]
    have ex1 := Ex.new (o := CodeO c' q) gc
    have kp : ∀ a o, B.st a → H a = some o → upd (upd H P (.tbl ps')) c' (CodeO c' q) a = some o := fun a o s h => by
      rw [at1 a (fun e => s.2 _ hm e) (ne_of_none h hc)]
      exact h
    have old : ∀ a, Mu H a → upd G c' (CodeO c' q) a = G a := fun a m => upd_ne fun e => by subst e; exact m.ne hc
    refine ⟨upd G c' (CodeO c' q), ex1, kp, ⟨fun a o h => ?_, by rw [upd_ne nbc]; exact j.no, ?_, ?_⟩, old⟩
    · by_cases e : a = c'
      · subst e
        rw [upd_same] at h ⊢
        exact h
      · rw [upd_ne e] at h
        rw [at1 a (fun e2 => by rw [e2, gP] at h; cases h) e]
        exact j.ex a o h
    · obtain ⟨a, b, c, ns, h1, h2, h3⟩ := j.bag
      exact ⟨a, b, c, ns, by rw [at1 _ nbP nbc]; exact h1, ex_l ex1 h2, h3⟩
    · refine ⟨fun t h => ?_, fun u h => (j.xt.ex u h).trans ex1, fun u h a o s e => kp a o s (j.xt.keep u h a o s e), fun u h a m => ?_⟩
      · obtain ⟨⟨pt, y1, y2, y3⟩, y4⟩ := j.xt.tb t h
        have ntc : t.1 ≠ c' := ne_of_none y1 hc
        refine ⟨?_, by rw [upd_ne ntc]; exact y4⟩
        by_cases e : t.1 = P
        · have e2 := hu t h e
          rw [e, e2]
          refine ⟨ps', by rw [upd_ne nPc, upd_same], ht, fun pos cv z => ?_⟩
          rcases ha pos cv z with z | z
          · obtain ⟨c0, x1, x2⟩ := z3 pos cv z
            exact ⟨c0, x1, ex1 _ _ x2⟩
          · exact ⟨c', z, upd_same⟩
        · refine ⟨pt, by rw [at1 _ e ntc]; exact y1, y2, fun pos cv z => ?_⟩
          obtain ⟨c0, x1, x2⟩ := y3 pos cv z
          exact ⟨c0, x1, ex1 _ _ x2⟩
      · rw [old a (j.mu u h a m)]
        exact j.xt.old u h a m
end
end DL
namespace DL
open PySem PySem.Spec PyProof.Rows L2 Evl LamX
/-- B with its anchor at u -/
abbrev Bx.at (B : Bx) (u : Option (Hp × Hp)) : Bx := { B with up := u }
section
variable {K : PySem.W.Frag} {B : Bx} {H0 G H G1 H1 G2 H2 : Hp} {σ : L2.St} {δ : DS}
/-- only plain data are known of the slots -/
def shD : Option SD → Option SD
  | some (.sh d) => some (.sh d)
  | _ => none
end
end DL
namespace DL
open PySem PySem.Spec PyProof.Rows L2 Evl LamX
end DL
namespace DL
open PySem PySem.Spec PyProof.Rows L2 Evl
end DL
namespace DL
open PySem PySem.Spec PyProof.Rows L2 Evl
end DL
namespace DL
open PySem PySem.Spec PyProof.Rows L2 NdefX
end DL
namespace DL
open PySem PySem.Spec PyProof.Rows L2 Evl LamX NdefX
section
variable {Wx : XW} {c : Nat} {f w0 : Str} {r : DE} {E : DEnds} {δ : DS} {okc : Nat → Bool} {hd : Nat → Str → D → Option D} {rx : XW → DE} {Q : D → Prop}
theorem z_shDs {d : D} : shD (some (.sh d)) = some (.sh d) := rfl
theorem z_shDn : shD none = none := rfl
end
end DL
namespace DL
open PySem PySem.Spec PyProof.Rows L2 Evl
end DL
namespace DL
open PySem PySem.Spec PyProof.Rows L2 Evl
end DL
namespace DL
open PySem PySem.Spec PyProof.Rows L2 Evl
end DL
namespace DL
open PySem PySem.Spec PyProof.Rows L2 Evl PySem.W
mutual
def pyX : D → PyData
  | .lst xs => .list (pyXs xs)
  | .tup xs => .tuple (pyXs xs)
  | .dic ks => kpy ks
  | .non => .none
  | .bl b => .bool b
  | .int i => .int i
  | .str x => .str x
  | .obj _ _ => .none
  | .bag => .none
  | .ktup _ => .none
def pyXs : List D → List PyData
  | [] => []
  | x :: xs => pyX x :: pyXs xs
end
def repKb (ks : List (D × D)) : Bool := ks.all (fun z => (plain z.2 && flat z.2) && (plain z.1 && flat z.1)) && (decide (wtK ks ≤ 100000) && (((ks.all fun z => (dk1 z.1).isSome) || (ks.all fun z => (dkT z.1).isSome)) && eqG (.dic ks) (.dic ks)))
mutual
def rich : D → Bool
  | .lst xs => richs xs
  | .tup xs => richs xs
  | .dic ks => repKb ks
  | .non => true
  | .bl _ => true
  | .int i => decide (i.natAbs.log2 < 1920)
  | .str x => PyData.strOk x
  | .obj _ _ => false
  | .bag => false
  | .ktup _ => false
def richs : List D → Bool
  | [] => true
  | x :: xs => rich x && richs xs
end
mutual
def wtX : D → Nat
  | .lst xs => wtXs xs + 4
  | .tup xs => wtXs xs + 4
  | .dic ks => wtK ks + 4
  | .non => 4
  | .bl _ => 5
  | .int _ => 2000
  | .str x => 10 * x.length + 2
  | .obj _ _ => 0
  | .bag => 0
  | .ktup _ => 0
def wtXs : List D → Nat
  | [] => 0
  | x :: xs => wtX x + 2 + wtXs xs
end
mutual
def depX : D → Nat
  | .lst xs => depXs xs + 1
  | .tup xs => depXs xs + 1
  | .dic _ => 66
  | .non => 64
  | .bl _ => 64
  | .int _ => 64
  | .str _ => 64
  | .obj _ _ => 64
  | .bag => 64
  | .ktup _ => 64
def depXs : List D → Nat
  | [] => 64
  | x :: xs => max (depX x) (depXs xs)
end
theorem repK_of {ks : List (D × D)} (h : repKb ks = true) : RepK ks ∧ eqG (.dic ks) (.dic ks) = true ∧ wtK ks ≤ 100000 := by
  unfold repKb at h
  rw [Bool.and_eq_true, Bool.and_eq_true, Bool.and_eq_true, List.all_eq_true] at h
  obtain ⟨h1, h2, h3, h4⟩ := h
  have h2 : wtK ks ≤ 100000 := of_decide_eq_true h2
  have p : ∀ z ∈ ks, (plain z.2 = true ∧ flat z.2 = true) ∧ plain z.1 = true ∧ flat z.1 = true := fun z hz => by
    have := h1 z hz
    rw [Bool.and_eq_true, Bool.and_eq_true, Bool.and_eq_true] at this
    exact this
  exact ⟨⟨fun z hz => (p z hz).1, fun z hz => (p z hz).2, by omega, Bool.or_eq_true_iff.mp h3⟩, h4, h2⟩
theorem kpy_len2 {ks : List (D × D)} (h : RepK ks) : (kpy ks).shown.length ≤ wtK ks + 4 := by
  have a := shownKv_len h.vp h.kp
  unfold kpy
  rw [PyData.shown]
  unfold dictText
  rw [strLen_append, strLen_append]
  have c := join_up (PyData.shownKv (ks.map fun z => (z.1.py, z.2.py)))
  have e1 : (("{" : String) : Str).length = 1 := rfl
  have e2 : (("}" : String) : Str).length = 1 := rfl
  omega
theorem kpy_dep {ks : List (D × D)} (h : RepK ks) : (kpy ks).depth ≤ 65 := by
  unfold kpy
  rw [PyData.depth]
  have := depthKv_le h.vp h.kp
  omega
mutual
theorem pyX_len : ∀ d : D, rich d = true → (pyX d).shown.length ≤ wtX d
  | .non, _ => by decide +kernel
  | .bl b, _ => by cases b <;> decide +kernel
  | .int i, h => by
    rw [pyX, PyData.shown, wtX]
    exact int_text_len (by simpa [rich] using h)
  | .str x, h => by
    rw [pyX, PyData.shown, wtX]
    exact StrLaws.reprText_len x (strOk_lt (by simpa [rich] using h))
  | .lst xs, h => by
    have := pyXs_len xs (by simpa [rich] using h)
    have h2 := listText_up (PyData.shownAll (pyXs xs))
    rw [pyX, PyData.shown, wtX]
    omega
  | .tup xs, h => by
    have := pyXs_len xs (by simpa [rich] using h)
    have h2 := tupleText_up (PyData.shownAll (pyXs xs))
    rw [pyX, PyData.shown, wtX]
    omega
  | .dic ks, h => by
    rw [pyX, wtX]
    exact kpy_len2 (repK_of (by simpa [rich] using h)).1
  | .obj _ _, h => by simp [rich] at h
  | .bag, h => by simp [rich] at h
  | .ktup _, h => by simp [rich] at h
theorem pyXs_len : ∀ ds : List D, richs ds = true → ((PyData.shownAll (pyXs ds)).map fun t => t.length + 2).sum ≤ wtXs ds
  | [], _ => by simp [pyXs, PyData.shownAll]
  | x :: xs, h => by
    have h' : rich x = true ∧ richs xs = true := by simpa [richs] using h
    have h1 := pyX_len x h'.1
    have h2 := pyXs_len xs h'.2
    rw [pyXs, PyData.shownAll, wtXs, List.map_cons, List.sum_cons]
    omega
end
mutual
theorem pyX_dep : ∀ d : D, rich d = true → (pyX d).depth ≤ depX d
  | .non, _ => by simp [pyX, PyData.depth]
  | .bl _, _ => by simp [pyX, PyData.depth]
  | .int _, _ => by simp [pyX, PyData.depth]
  | .str x, h => by simp [pyX, PyData.depth]
  | .lst xs, h => by
    have := pyXs_dep xs (by simpa [rich] using h)
    rw [pyX, PyData.depth, depX]
    omega
  | .tup xs, h => by
    have := pyXs_dep xs (by simpa [rich] using h)
    rw [pyX, PyData.depth, depX]
    omega
  | .dic ks, h => by
    have := kpy_dep (repK_of (by simpa [rich] using h)).1
    rw [pyX, depX]
    omega
  | .obj _ _, h => by simp [rich] at h
  | .bag, h => by simp [rich] at h
  | .ktup _, h => by simp [rich] at h
theorem pyXs_dep : ∀ ds : List D, richs ds = true → PyData.depthAll (pyXs ds) ≤ depXs ds
  | [], _ => by simp [pyXs, PyData.depthAll]
  | x :: xs, h => by
    have h' : rich x = true ∧ richs xs = true := by simpa [richs] using h
    have h1 := pyX_dep x h'.1
    have h2 := pyXs_dep xs h'.2
    rw [pyXs, PyData.depthAll, depXs]
    omega
end
mutual
theorem pyX_show : ∀ d : D, rich d = true → (pyX d).showable = true
  | .non, _ => rfl
  | .bl _, _ => rfl
  | .int i, h => by simpa [pyX, PyData.showable, rich] using h
  | .str x, h => rfl
  | .lst xs, h => by
    rw [pyX, PyData.showable]
    exact pyXs_show xs (by simpa [rich] using h)
  | .tup xs, h => by
    rw [pyX, PyData.showable]
    exact pyXs_show xs (by simpa [rich] using h)
  | .dic ks, h => by
    have k := (repK_of (by simpa [rich] using h)).1
    rw [pyX]
    unfold kpy
    rw [PyData.showable]
    exact kpy_show k.vp k.kp
  | .obj _ _, h => by simp [rich] at h
  | .bag, h => by simp [rich] at h
  | .ktup _, h => by simp [rich] at h
theorem pyXs_show : ∀ ds : List D, richs ds = true → PyData.showableAll (pyXs ds) = true
  | [], _ => rfl
  | x :: xs, h => by
    have h' : rich x = true ∧ richs xs = true := by simpa [richs] using h
    rw [pyXs, PyData.showableAll, pyX_show x h'.1, pyXs_show xs h'.2]
    rfl
end
section
variable {X : Cx} {B : Bx} {pins : List (Addr × Obj)} {σ : L2.St} {H G : Hp} {s : Shared}
theorem eqP_of_rc {A : Around} {a b : Addr} (h : a ≠ b → RcP X.prog X.w A s (.ref a) (.ref b) true) : SeqAt.EqP X.prog X.w A s (.ref a) (.ref b) true := by
  by_cases e : a = b
  · subst e
    exact (SeqAt.EqAt.same _).eqP
  · exact SeqAt.eqP_refs e (h e)
theorem dicX_run (I : Inv X pins σ H s) (e : Ex G H) {ks : List (D × D)} (hr : repKb ks = true) {A : Around} (hu : A.units + 66 < cLine) {x y : V} {v u : Value} (hx : Dat X.K B G x (.dic ks)) (hy : Dat X.K B G y (.dic ks)) (rx : RelV x v) (ry : RelV y u) :
    ∃ a b, v = .ref a ∧ u = .ref b ∧ RcP X.prog X.w A s v u true := by
  obtain ⟨rk, hg, _⟩ := repK_of hr
  have vp : valsP ks = true := List.all_eq_true.mpr fun z hz => (rk.vp z hz).1
  rw [eqG] at hg
  rcases rk.kk with f | f
  · obtain ⟨a, kvs, va, rfl, d1, r1, s1, h1⟩ := dic_K I e hx f
    obtain ⟨b, lvs, vb, rfl, d2, r2, s2, h2⟩ := dic_K I e hy f
    cases rx
    cases ry
    refine ⟨a, b, rfl, rfl, fun E Q q => ?_⟩
    refine rcP_dicts s1 s2 h1 h2 (by omega) (fun _ => hitsK d2 r2 d1 r1 (allB_plain I e (show A.units + 1 + 64 < cLine by omega) vp vp)) _ _ ?_
    have e1 : va.length = ks.length := by rw [← Paired.length r1, d1.len]
    have e2 : vb.length = ks.length := by rw [← Paired.length r2, d2.len]
    rw [e1, e2, hg]
    exact q
  · obtain ⟨a, kvs, va, rfl, d1, r1, s1, h1⟩ := dic_T I e hx f
    obtain ⟨b, lvs, vb, rfl, d2, r2, s2, h2⟩ := dic_T I e hy f
    cases rx
    cases ry
    refine ⟨a, b, rfl, rfl, fun E Q q => ?_⟩
    refine rcH_eq s1 s2 h1 h2 (by omega) (fun _ => hitsT d2 r2 d1 r1 (allB_plain I e (show A.units + 1 + 64 < cLine by omega) vp vp)) _ _ ?_
    have e1 : va.length = ks.length := by rw [← Paired.length r1, d1.len]
    have e2 : vb.length = ks.length := by rw [← Paired.length r2, d2.len]
    rw [e1, e2, hg]
    exact q
theorem scalX_run (I : Inv X pins σ H s) (e : Ex G H) {d : D} {A : Around} (hu : A.units + 64 < cLine) (p : plain d = true) {x y : V} {v u : Value} (hx : Dat X.K B G x d) (hy : Dat X.K B G y d) (rx : RelV x v) (ry : RelV y u) : SeqAt.EqP X.prog X.w A s v u true := by
  have f := (Bool.and_eq_true_iff.mp p).1
  have h := (eqB_plain I e hu p p hx hy rx ry).1
  rw [eqG_fine d d f f, eqb_refl f] at h
  exact h
mutual
theorem eqX_run (I : Inv X pins σ H s) (e : Ex G H) : ∀ (d : D) (A : Around), rich d = true → A.units + depX d < cLine → ∀ (x y : V) (v u : Value), Dat X.K B G x d → Dat X.K B G y d → RelV x v → RelV y u → SeqAt.EqP X.prog X.w A s v u true
  | .non, A, _, hu, _, _, _, _, hx, hy, rx, ry => scalX_run I e hu (by rfl) hx hy rx ry
  | .bl _, A, _, hu, _, _, _, _, hx, hy, rx, ry => scalX_run I e hu (by rfl) hx hy rx ry
  | .int i, A, h, hu, _, _, _, _, hx, hy, rx, ry => scalX_run I e hu (by unfold plain; rw [D.fine, show decide (i.natAbs.log2 < 1920) = true by simpa [rich] using h]; rfl) hx hy rx ry
  | .str x, A, h, hu, _, _, _, _, hx, hy, rx, ry => scalX_run I e hu (by unfold plain; rw [D.fine, show PyData.strOk x = true by simpa [rich] using h]; rfl) hx hy rx ry
  | .dic ks, A, h, hu, _, _, _, _, hx, hy, rx, ry => by
    obtain ⟨a, b, rfl, rfl, r⟩ := dicX_run I e (by simpa [rich] using h) (A := A) (by rw [depX] at hu; exact hu) hx hy rx ry
    exact eqP_of_rc fun _ => r
  | .lst xs, A, h, hu, _, _, _, _, .lst h1 t1, .lst h2 t2, rx, ry => by
    rw [depX] at hu
    cases rx
    cases ry
    exact eqP_of_rc fun _ => lstX_run I e xs A (by simpa [rich] using h) (by omega) h1 h2 t1 t2
  | .tup xs, A, h, hu, _, _, _, _, .tup h1 t1, .tup h2 t2, rx, ry => by
    rw [depX] at hu
    cases rx
    cases ry
    exact eqP_of_rc fun _ => tupX_run I e xs A (by simpa [rich] using h) (by omega) h1 h2 t1 t2
  | .obj _ _, _, h, _, _, _, _, _, _, _, _, _ => by simp [rich] at h
  | .bag, _, h, _, _, _, _, _, _, _, _, _ => by simp [rich] at h
  | .ktup _, _, h, _, _, _, _, _, _, _, _, _ => by simp [rich] at h
theorem eqXs_run (I : Inv X pins σ H s) (e : Ex G H) : ∀ (ds : List D) (A : Around), richs ds = true → A.units + depXs ds < cLine → ∀ (xs ys : List V) (vs us : List Value), Dats X.K B G xs ds → Dats X.K B G ys ds → Vals xs vs → Vals ys us → ∀ j (h1 : j < vs.length) (h2 : j < us.length), SeqAt.EqP X.prog X.w A s vs[j] us[j] true
  | [], _, _, _, _, _, _, _, .nil, _, r1, _ => fun j h1 _ => by
    cases r1
    exact absurd h1 (Nat.not_lt_zero j)
  | d :: ds, A, h, hu, _, _, _, _, .cons h1 t1, .cons h2 t2, r1, r2 => fun j j1 j2 => by
    have h' : rich d = true ∧ richs ds = true := by simpa [richs] using h
    rw [depXs] at hu
    cases r1 with
    | cons a1 b1 =>
      cases r2 with
      | cons a2 b2 =>
        cases j with
        | zero => exact eqX_run I e d A h'.1 (by omega) _ _ _ _ h1 h2 a1 a2
        | succ j => exact eqXs_run I e ds A h'.2 (by omega) _ _ _ _ t1 t2 b1 b2 j (Nat.lt_of_succ_lt_succ j1) (Nat.lt_of_succ_lt_succ j2)
theorem lstX_run (I : Inv X pins σ H s) (e : Ex G H) : ∀ (ds : List D) (A : Around), richs ds = true → A.units + depXs ds + 1 < cLine → ∀ {a b : Addr} {xs ys : List V}, G a = some (.lst xs) → G b = some (.lst ys) → Dats X.K B G xs ds → Dats X.K B G ys ds → RcP X.prog X.w A s (.ref a) (.ref b) true
  | ds, A, h, hu, a, b, xs, ys, h1, h2, t1, t2 => fun E Q q => by
    obtain ⟨us, r1, p1, _⟩ := I.list (sq_of (e _ _ h1))
    obtain ⟨ws, r2, p2, _⟩ := I.list (sq_of (e _ _ h2))
    have hsz : us.toArray.size = ws.toArray.size := by
      rw [List.size_toArray, List.size_toArray, ← r1.length, ← r2.length, t1.len, t2.len]
    refine SeqAt.rcP_lists (e := fun _ => true) p1.isList p2.isList hsz (by omega) (fun j j1 j2 => ?_) E Q ?_
    · have k := eqXs_run I e ds A.in1 h (by show A.units + 1 + _ < _; omega) _ _ _ _ t1 t2 r1 r2 j (by simpa using j1) (by simpa using j2)
      simpa using k
    · rw [show ((List.range us.toArray.size).all fun _ => true) = true from List.all_eq_true.mpr fun _ _ => rfl]
      exact q
theorem tupX_run (I : Inv X pins σ H s) (e : Ex G H) : ∀ (ds : List D) (A : Around), richs ds = true → A.units + depXs ds + 1 < cLine → ∀ {a b : Addr} {xs ys : List V}, G a = some (.tup xs) → G b = some (.tup ys) → Dats X.K B G xs ds → Dats X.K B G ys ds → RcP X.prog X.w A s (.ref a) (.ref b) true
  | ds, A, h, hu, a, b, xs, ys, h1, h2, t1, t2 => fun E Q q => by
    obtain ⟨us, r1, p1, _⟩ := I.tuple (tx e h1)
    obtain ⟨ws, r2, p2, _⟩ := I.tuple (tx e h2)
    have hsz : us.toArray.size = ws.toArray.size := by
      rw [List.size_toArray, List.size_toArray, ← r1.length, ← r2.length, t1.len, t2.len]
    refine SeqAt.rcIn_tuples (e := fun _ => true) p1 p2 (by omega) (fun j j1 j2 => ?_) ?_
    · have k := eqXs_run I e ds A.in1 h (by show A.units + 1 + _ < _; omega) _ _ _ _ t1 t2 r1 r2 j (by simpa using j1) (by simpa using j2)
      exact (show SeqAt.EqP X.prog X.w A.in1 s us[j] ws[j] true from k)
    · rw [show ((List.range (min us.toArray.size ws.toArray.size)).all fun _ => true) = true from List.all_eq_true.mpr fun _ _ => rfl, hsz]
      simpa using q
end
theorem reads_dic (I : Inv X pins σ H s) (j : Jn X.K B G H) {a : Addr} {ks : List (D × D)} (rk : RepK ks) (h : Dat X.K B G (.ref a) (.dic ks)) : Reads s.heap (.ref a) (kpy ks) [a] ∧ (a == sysModules) = false := by
  cases h with
  | @dK a od kvs ks h3 h4 =>
    obtain ⟨hs, hgd, hx, es, ep, vs, hdt, hsz, kv, hm⟩ := I.frzK (j.ex _ _ h3)
    have hvl : kvs.length = vs.length := Paired.length kv
    obtain ⟨es2, ep2, ⟨o2, ho2, hx2, hd2⟩, hsz2, hk2⟩ := Heap.DictOf.raw hm.dictOf
    have at_ : ∀ (i : Nat) (k1 : Key) (v1 : V) (en : DictEntry), kvs[i]? = some (k1, v1) → es2[i]? = some en → RelV (kV k1) en.key ∧ RelV v1 en.val := fun i k1 v1 en e1 e2 => by
      obtain ⟨u, e3, ru⟩ := kv_get kv e1
      obtain ⟨hi, e4⟩ := Array.getElem?_eq_some_iff.mp e2
      have := hk2 i hi k1 u e3
      rw [e4] at this
      exact ⟨relV_key this.1, by rw [this.2]; exact ru⟩
    refine ⟨reads_dict I j.ex (kx := kvs.map fun p => kV p.1) (vx := kvs.map (·.2)) ho2 hx2 hd2 ?_ ?_ (datK_keys h4) (datK_vals h4) rk, hs⟩
    · refine vals_of_get (by rw [List.length_map, List.length_map, hvl, ← hsz2]; exact (Array.length_toList).symm) fun i a b ha hb => ?_
      rw [List.getElem?_map] at ha hb
      obtain ⟨⟨k1, v1⟩, e1, rfl⟩ := Option.map_eq_some_iff.mp ha
      obtain ⟨en, e2, rfl⟩ := Option.map_eq_some_iff.mp hb
      rw [Array.getElem?_toList] at e2
      exact (at_ i k1 v1 en e1 e2).1
    · refine vals_of_get (by rw [List.length_map, List.length_map, hvl, ← hsz2]; exact (Array.length_toList).symm) fun i a b ha hb => ?_
      rw [List.getElem?_map] at ha hb
      obtain ⟨⟨k1, v1⟩, e1, rfl⟩ := Option.map_eq_some_iff.mp ha
      obtain ⟨en, e2, rfl⟩ := Option.map_eq_some_iff.mp hb
      rw [Array.getElem?_toList] at e2
      exact (at_ i k1 v1 en e1 e2).2
  | @dT a od kvs ks h3 h4 =>
    obtain ⟨hgd, z, hs, xs, pr, o', es, ep, ho, hx, hdt, he, _⟩ := I.hok a _ (j.ex _ _ h3)
    rw [hgd] at ho
    cases ho
    have hxl : kvs.length = xs.length := Paired.length pr
    have hel : es.size = xs.length := size_of_entries he
    have hkeys : es.toList.map (·.key) = (xs.map fun x => x.2.1).map Value.ref := by rw [he, List.map_map, List.map_map]; rfl
    obtain ⟨G2, g2, d2⟩ := Gr.tupKs j (qs := xs.map fun x => x.2.1) (kk := kvs.map (·.1)) (by rw [List.length_map, List.length_map]; exact hxl.symm) fun i q kk e1 e2 => by
      rw [List.getElem?_map] at e1 e2
      obtain ⟨⟨k1, v1⟩, e3, rfl⟩ := Option.map_eq_some_iff.mp e2
      obtain ⟨b, hb, r1, r2, r3⟩ := paired_get pr e3
      rw [hb] at e1
      cases e1
      exact r2
    rw [datT_keys h4] at d2
    refine ⟨reads_dict I g2.j.ex (kx := (xs.map fun x => x.2.1).map V.ref) (vx := kvs.map (·.2)) hgd hx hdt ?_ ?_ d2 ((datT_vals h4).mono g2.ex) rk, hs⟩
    · rw [hkeys]
      exact vals_refs _
    · refine vals_of_get (by rw [List.length_map, List.length_map, hxl, ← hel]; exact (Array.length_toList).symm) fun i a b ha hb => ?_
      rw [List.getElem?_map] at ha hb
      obtain ⟨⟨k1, v1⟩, e1, rfl⟩ := Option.map_eq_some_iff.mp ha
      obtain ⟨en, e2, rfl⟩ := Option.map_eq_some_iff.mp hb
      obtain ⟨b, hb2, r1, r2, r3⟩ := paired_get pr e1
      rw [he, List.getElem?_map, hb2] at e2
      cases e2
      exact r3
theorem rk_one {d : PyData} {u : Value} {as : List Addr} (r : Reads s.heap u d as) (hs : d.showable = true) (hz : d.shown.length ≤ sizeLine) (hd : d.hasDict = true → sysModules ∉ as) :
    ∃ as bs, Reads s.heap u d as ∧ ReadAtMost s.heap d.depth bs ∧ ReprK X.prog X.w bs s.heap d.depth u d.shown := by
  obtain ⟨bs, h1, h2⟩ := ReprK.of_reads (prog := X.prog) (w := X.w) r hs hd hz
  exact ⟨as, bs, r, h1, h2⟩
theorem bs_max {m n k : Nat} {bs cs : List Addr} (h1 : ReadAtMost s.heap m bs) (h2 : ReadAtMost s.heap n cs) (e1 : m ≤ k) (e2 : n ≤ k) : ReadAtMost s.heap k (bs ++ cs) := (h1.mono e1).append (h2.mono e2)
mutual
theorem rkX (I : Inv X pins σ H s) (j : Jn X.K B G H) : ∀ (d : D) (v : V) (u : Value), rich d = true → wtX d ≤ 15000000 → Dat X.K B G v d → RelV v u → ∃ as bs, Reads s.heap u (pyX d) as ∧ ReadAtMost s.heap (pyX d).depth bs ∧ ReprK X.prog X.w bs s.heap (pyX d).depth u (pyX d).shown
  | .non, _, _, h, hw, .non, r => by
    cases r
    exact rk_one .none (pyX_show _ h) (Nat.le_trans (pyX_len _ h) (Nat.le_trans hw (by rw [sizeLine_eq]; decide))) (fun z => by cases z)
  | .bl b, _, _, h, hw, .bl _, r => by
    cases r
    exact rk_one (.bool b) (pyX_show _ h) (Nat.le_trans (pyX_len _ h) (Nat.le_trans hw (by rw [sizeLine_eq]; decide))) (fun z => by cases z)
  | .int i, _, _, h, hw, .int _, r => by
    obtain ⟨t, rfl⟩ := r
    exact rk_one (.int i t) (pyX_show _ h) (Nat.le_trans (pyX_len _ h) (Nat.le_trans hw (by rw [sizeLine_eq]; decide))) (fun z => by cases z)
  | .str x, _, _, h, hw, .str _, r => by
    obtain ⟨t, rfl⟩ := r
    exact rk_one (.str x t) (pyX_show _ h) (Nat.le_trans (pyX_len _ h) (Nat.le_trans hw (by rw [sizeLine_eq]; decide))) (fun z => by cases z)
  | .dic ks, v, _, h, hw, hd, r => by
    have k := repK_of (show repKb ks = true by simpa [rich] using h)
    obtain ⟨a, rfl⟩ : ∃ a, v = .ref a := by cases hd <;> exact ⟨_, rfl⟩
    cases r
    obtain ⟨rd, hs⟩ := reads_dic I j k.1 hd
    exact rk_one rd (pyX_show _ h) (Nat.le_trans (pyX_len _ h) (Nat.le_trans hw (by rw [sizeLine_eq]; decide))) (fun _ m => by
      rw [List.mem_singleton] at m
      subst m
      simp at hs)
  | .lst xs, _, _, h, hw, .lst (a := a) h1 t1, r => by
    cases r
    have h' : richs xs = true := by simpa [rich] using h
    have hz := Nat.le_trans (pyX_len _ h) (Nat.le_trans hw (show 15000000 ≤ sizeLine by rw [sizeLine_eq]; decide))
    rw [wtX] at hw
    obtain ⟨its, rv, ⟨o, n, ho, hc, _, hdt⟩, _⟩ := I.list (sq_of (j.ex _ _ h1))
    obtain ⟨as, bs, q1, q2, q3⟩ := rkXs I j xs _ its h' (by omega) t1 rv
    have q0 : Reads s.heap (.ref a) (.list (pyXs xs)) (a :: as) := .list ho hc hdt q1
    have hn : a ∉ bs := not_mem_of_deeper q0 (by simp only [PyData.depth]; omega) q2
    refine ⟨_, a :: bs, q0, ReadAtMost.cons (n := PyData.depthAll (pyXs xs)) q0 (by simp only [pyX, PyData.depth]; omega) q2, ?_⟩
    rw [pyX, PyData.depth, PyData.shown]
    cases its with
    | nil =>
      cases rv
      cases t1
      rw [pyXs, PyData.shownAll, listText_nil]
      exact ReprK.listEmpty ho hc hdt
    | cons y ys => exact ReprK.list ho hc hdt hn (by simpa using q3.length_eq) fun i z ez => q3.item i z (by simpa using ez)
  | .tup xs, _, _, h, hw, .tup (a := a) h1 t1, r => by
    cases r
    have h' : richs xs = true := by simpa [rich] using h
    rw [wtX] at hw
    obtain ⟨its, rv, ⟨o, ho, hc, n, hdt⟩, _⟩ := I.tuple (tx j.ex h1)
    obtain ⟨as, bs, q1, q2, q3⟩ := rkXs I j xs _ its h' (by omega) t1 rv
    have q0 : Reads s.heap (.ref a) (.tuple (pyXs xs)) as := .tuple ho hc hdt q1
    have hn : a ∉ bs := not_mem_of_deeper q0 (by simp only [PyData.depth]; omega) q2
    refine ⟨_, a :: bs, q0, ReadAtMost.cons (n := PyData.depthAll (pyXs xs)) q0 (by simp only [pyX, PyData.depth]; omega) q2, ?_⟩
    rw [pyX, PyData.depth, PyData.shown]
    exact ReprK.tuple ho hc hdt hn q3
  | .obj _ _, _, _, h, _, _, _ => by simp [rich] at h
  | .bag, _, _, h, _, _, _ => by simp [rich] at h
  | .ktup _, _, _, h, _, _, _ => by simp [rich] at h
theorem rkXs (I : Inv X pins σ H s) (j : Jn X.K B G H) : ∀ (ds : List D) (vs : List V) (us : List Value), richs ds = true → wtXs ds ≤ 15000000 → Dats X.K B G vs ds → Vals vs us →
    ∃ as bs, ReadsAll s.heap us (pyXs ds) as ∧ ReadAtMost s.heap (PyData.depthAll (pyXs ds)) bs ∧ ReprAllK X.prog X.w bs s.heap (PyData.depthAll (pyXs ds)) us (PyData.shownAll (pyXs ds))
  | [], _, _, _, _, .nil, r => by
    cases r
    exact ⟨[], [], .nil, fun _ h => (nomatch h), .nil⟩
  | d :: ds, _, _, h, hw, .cons h1 t1, r => by
    have h' : rich d = true ∧ richs ds = true := by simpa [richs] using h
    rw [wtXs] at hw
    cases r with
    | cons r1 r2 =>
      obtain ⟨as, bs, q1, q2, q3⟩ := rkX I j d _ _ h'.1 (by omega) h1 r1
      obtain ⟨as2, bs2, p1, p2, p3⟩ := rkXs I j ds _ _ h'.2 (by omega) t1 r2
      rw [pyXs, PyData.depthAll, PyData.shownAll]
      exact ⟨as ++ as2, bs ++ bs2, .cons q1 p1, bs_max q2 p2 (Nat.le_max_left _ _) (Nat.le_max_right _ _),
        .cons ((q3.more fun b hb => List.mem_append_left _ hb).level_le (Nat.le_max_left _ _)) (p3.more_le (fun b hb => List.mem_append_right _ hb) (Nat.le_max_right _ _))⟩
end
end
def richX (d : D) : Bool := rich d && (decide (depX d ≤ 69) && decide (wtX d ≤ 15000000))
def oEqX : O2 := fun x y Q => ((∃ xs, (x = .lst xs ∨ x = .tup xs) ∧ y = x ∧ richX x = true) ∧ Q (.bl true)) ∨ oEqA x y Q
def cReprX : FD := fun ds Q => ((∃ x xs, ds = [x] ∧ (x = .lst xs ∨ x = .tup xs) ∧ richX x = true ∧ Q (.str (pyX x).shown))) ∨ cReprA ds Q
theorem richX_of {d : D} (h : richX d = true) : rich d = true ∧ depX d ≤ 69 ∧ wtX d ≤ 15000000 := by
  unfold richX at h
  rw [Bool.and_eq_true, Bool.and_eq_true] at h
  exact ⟨h.1, of_decide_eq_true h.2.1, of_decide_eq_true h.2.2⟩
theorem op_eqX {X : Cx} {B : Bx} (hu : X.A.units + 70 < cLine) : OpR X (compareOp .Eq) (rLift X.K B oEqX) := by
  intro pins s σ H x y v u P I rx ry h
  obtain ⟨G, dx, dy, Q, j, hx, hy, hq, k⟩ := h
  rcases hq with ⟨⟨xs, hxs, rfl, hr⟩, q⟩ | hq
  · obtain ⟨r, hd, _⟩ := richX_of hr
    have fin := k _ _ G H q (Gr.refl j) (.bl _)
    rcases hxs with rfl | rfl
    · cases hx with
      | lst h1 t1 =>
        cases hy with
        | lst h2 t2 =>
          cases rx
          cases ry
          rw [depX] at hd
          exact lstX_run I j.ex xs X.A (by simpa [rich] using r) (by omega) h1 h2 t1 t2 _ _ ⟨.bl true, H, I, rfl, fin⟩
    · cases hx with
      | tup h1 t1 =>
        cases hy with
        | tup h2 t2 =>
          cases rx
          cases ry
          rw [depX] at hd
          exact tupX_run I j.ex xs X.A (by simpa [rich] using r) (by omega) h1 h2 t1 t2 _ _ ⟨.bl true, H, I, rfl, fin⟩
  · exact op_eqA (by omega) pins s σ H x y v u P I rx ry ⟨G, dx, dy, Q, j, hx, hy, hq, k⟩
theorem call_reprX {X : Cx} {B : Bx} (hg : X.A.guards = some []) (hu : X.A.units + 70 < cLine) : CallR X (.builtin "repr") (cLift X.K B cReprX) := by
  intro pins s σ H vs us P I rv h
  obtain ⟨G, ds, Q, j, hd, hq, k⟩ := h
  rcases hq with ⟨x, xs, rfl, hxs, hr, q⟩ | hq
  · obtain ⟨r, hdp, hw⟩ := richX_of hr
    have hz : (pyX x).shown.length ≤ sizeLine := Nat.le_trans (pyX_len _ r) (Nat.le_trans hw (by rw [sizeLine_eq]; decide))
    have hdd := pyX_dep _ r
    cases hd with
    | cons h1 h2 =>
      cases h2
      obtain ⟨u, rfl, ru⟩ := vals1 rv
      have fin := k _ _ G H q (Gr.refl j) (.str _)
      rcases hxs with rfl | rfl
      · cases h1 with
        | lst h1 t1 =>
          cases ru
          have h' : richs xs = true := by simpa [rich] using r
          rw [wtX] at hw
          obtain ⟨its, rv2, ⟨o, n, ho, hc, _, hdt⟩, _⟩ := I.list (sq_of (j.ex _ _ h1))
          obtain ⟨as, bs, q1, q2, q3⟩ := rkXs I j xs _ its h' (by omega) t1 rv2
          have hn : _ ∉ bs := not_mem_of_deeper (.list ho hc hdt q1) (by simp only [PyData.depth]; omega) q2
          refine call_repr_slot (by omega) ⟨o, ho, hc⟩ F.slot_list_repr.toG ?_
          rw [pyX, PyData.shown] at fin hz
          simp only [pyX, PyData.depth] at hdd
          cases its with
          | nil =>
            cases rv2
            cases t1
            rw [pyXs, PyData.shownAll, listText_nil] at fin
            exact call_list_repr_empty ⟨o, ho, hc⟩ ho hdt ⟨_, _, rfl, ⟨.str _, H, I.tok _, ⟨_, rfl⟩, fin⟩⟩
          | cons y ys => exact call_list_reprK ho hc hdt hn (by simpa using q3.length_eq) (fun i z ez => q3.item i z (by simpa using ez)) hg (fun b _ => Clear.nil b) (by show X.A.units + 1 + _ < _; omega) (fun _ _ e => e) (fun h' u tk hk => ⟨_, _, rfl, ⟨.str _, H, I.kept hk, ⟨_, rfl⟩, fin⟩⟩) hz
      · cases h1 with
        | tup h1 t1 =>
          cases ru
          have h' : richs xs = true := by simpa [rich] using r
          rw [wtX] at hw
          obtain ⟨its, rv2, ⟨o, ho, hc, n, hdt⟩, _⟩ := I.tuple (tx j.ex h1)
          obtain ⟨as, bs, q1, q2, q3⟩ := rkXs I j xs _ its h' (by omega) t1 rv2
          have hn : _ ∉ bs := not_mem_of_deeper (.tuple ho hc hdt q1) (by simp only [PyData.depth]; omega) q2
          refine call_repr_slot (by omega) ⟨o, ho, hc⟩ F.slot_tuple_repr ?_
          rw [pyX, PyData.shown] at fin hz
          simp only [pyX, PyData.depth] at hdd
          exact call_tuple_reprK ho hc hdt hn q3 hg (fun b _ => Clear.nil b) (by show X.A.units + 1 + _ < _; omega) (fun _ _ e => e) (fun h' u tk hk => ⟨_, _, rfl, ⟨.str _, H, I.kept hk, ⟨_, rfl⟩, fin⟩⟩) hz
  · exact call_reprA hg (by omega) pins s σ H vs us P I rv ⟨G, ds, Q, j, hd, hq, k⟩
section
variable {Q : D → Prop} {x y : D} {ds : List D}
theorem z_eqX : oEqX x y Q = (((∃ xs, (x = .lst xs ∨ x = .tup xs) ∧ y = x ∧ richX x = true) ∧ Q (.bl true)) ∨ oEqA x y Q) := propext Iff.rfl
theorem z_rpX : cReprX ds Q = ((∃ x xs, ds = [x] ∧ (x = .lst xs ∨ x = .tup xs) ∧ richX x = true ∧ Q (.str (pyX x).shown)) ∨ cReprA ds Q) := propext Iff.rfl
end
end DL
namespace DL
open PySem PySem.Spec PyProof.Rows L2 Evl
end DL
namespace DL
open PySem PySem.Spec PyProof.Rows L2 LamX
end DL
namespace DL
open PySem PySem.Spec PyProof.Rows L2 Evl
section
variable {K : PySem.W.Frag} {B : Bx} {G H G2 H2 H3 : Hp}
/-- all stands, and more may stand -/
theorem Gr.grow (j : Jn K B G H) (hk : ∀ b o, H b = some o → H2 b = some o) : Gr K B G H G H2 := by
  refine ⟨Ex.refl G, fun a u _ h => hk _ _ h, ⟨fun a u h => hk _ _ (j.ex a u h), j.no, ?_, ⟨fun t h => ?_, j.xt.ex, fun u h a o s e => hk _ _ (j.xt.keep u h a o s e), j.xt.old⟩⟩, fun a h => rfl⟩
  · obtain ⟨a, b, c, ns, h1, h2, h3⟩ := j.bag
    exact ⟨a, b, c, ns, hk _ _ h1, h2, h3⟩
  · obtain ⟨⟨ps, a, b, c⟩, d⟩ := j.xt.tb t h
    exact ⟨⟨ps, hk _ _ a, b, c⟩, d⟩
inductive PrK (K : PySem.W.Frag) (B : Bx) (G H : Hp) : List Addr → List (Key × V) → List (D × OD) → Prop
  | nil : PrK K B G H [] [] []
  | cons {t : Addr} {k : Key} {v : V} {d : D} {ts : List Addr} {kvs : List (Key × V)} {os : List (D × OD)} : H t = some (.tup [kV k, v]) → Dat K B G v d → PrK K B G H ts kvs os → PrK K B G H (t :: ts) ((k, v) :: kvs) ((embK k, .sh d) :: os)
theorem PrK.keep (e : Ex G G2) (hk : ∀ a o, H a = some (.tup o) → H2 a = some (.tup o)) : ∀ {ts : List Addr} {kvs : List (Key × V)} {os : List (D × OD)}, PrK K B G H ts kvs os → PrK K B G2 H2 ts kvs os
  | _, _, _, .nil => .nil
  | _, _, _, .cons h1 h2 t => .cons (hk _ _ h1) (h2.mono e) (PrK.keep e hk t)
theorem PrK.gr {ts : List Addr} {kvs : List (Key × V)} {os : List (D × OD)} (j : Jn K B G H) (h : PrK K B G H ts kvs os) (g : Gr K B G H G2 H2) : PrK K B G2 H2 ts kvs os := h.keep g.ex (g.keepT j)
theorem PrK.append : ∀ {ts us : List Addr} {kvs lvs : List (Key × V)} {os ps : List (D × OD)}, PrK K B G H ts kvs os → PrK K B G H us lvs ps → PrK K B G H (ts ++ us) (kvs ++ lvs) (os ++ ps)
  | _, _, _, _, _, _, .nil, h => h
  | _, _, _, _, _, _, .cons h1 h2 t, h => .cons h1 h2 (t.append h)
theorem PrK.len : ∀ {ts : List Addr} {kvs : List (Key × V)} {os : List (D × OD)}, PrK K B G H ts kvs os → ts.length = os.length
  | _, _, _, .nil => rfl
  | _, _, _, .cons _ _ t => by rw [List.length_cons, List.length_cons, t.len]
theorem PrK.prt : ∀ {ts : List Addr} {kvs : List (Key × V)} {os : List (D × OD)}, PrK K B G H ts kvs os → Paired (fun (p : Addr) (kv : Key × V) => SqT K H p [kV kv.1, kv.2]) ts kvs
  | _, _, _, .nil => .nil
  | _, _, _, .cons h _ t => .cons (st_of h) t.prt
end
end DL
namespace L2
open PySem PySem.Spec PyProof.Rows
end L2
namespace DL
open PySem PySem.Spec PyProof.Rows L2 Evl
end DL
namespace DL
open PySem PySem.Spec PyProof.Rows L2 Evl
theorem pe_makeR0 {X : Cx} {CX : CXT} {k : Nat} {f C : Addr} {sp : Sp} {E : XK} {x : Str} {p pos : Pos} (M : Mk X.K C f) (F : FnR X.prog X.w X.K X.mg X.base CX k f sp) (hr : Room (k + 1) X.A) (hg : Gl X x) (hm : X.mg x = some (.ref C)) (hx : Passes CX X E) (hdb : (x == ("__debug__" : Str)) = false := by decide) :
    PE X (.Call (.Name x p) [] [] pos) (StX.tMakeR C sp E tNil) := by
  refine ⟨fun pins s σ H Q I h => ?_⟩
  refine wpAny_Call_Name_kw (ld_glob I hg hm ?_ hdb)
  exact PySem.W.callWith_K0 I.kIn M.kp (StX.run_makeR (us := []) M F hr hx I .nil h)
end DL
namespace DL
open PySem PySem.Spec PyProof.Rows L2 Evl
end DL
namespace DL
open PySem PySem.Spec PyProof.Rows L2 Evl
end DL
namespace DL
open PySem PySem.Spec PyProof.Rows L2 Evl
def scTD (d : D) (Q : D → Prop) : Prop := match d with
  | .tup ds => ds.all scal = true ∧ Q (.tup ds)
  | d => scal d = true ∧ Q d
section
variable {X : Cx} {B : Bx}
theorem bor_core3 {pins : List (Addr × Obj)} {σ : L2.St} {s : Shared} {H0 G H : Hp} {δ : DS} {i : Nat} {v : V} {o : OD} (I : Inv X pins σ H s) (j : Jn X.K B G H) (st : StOk X.K B H0 G H σ δ) (h1 : δ[i]? = some (some (.ow v o))) :
    ∃ G1 L, Inv X pins σ L s ∧ Jn X.K B G1 L ∧ StOk X.K B H0 G1 L σ (δ.set i (some (.sh o.toD))) ∧ ∀ s2 G2 H2, Inv X pins σ H2 s2 → Gr X.K B G1 L G2 H2 → ∃ U G3, Inv X pins σ U s2 ∧ Gr X.K B G H G3 U ∧ ∀ a vs, H2 a = some (.tup vs) → U a = some (.tup vs) := by
  obtain ⟨F, y⟩ := st.ex
  obtain ⟨e1, e2, e3, e4⟩ := y.ow h1
  obtain ⟨L, I2, l⟩ := lock_all (F i) I e3
  have hG : ∀ p ∈ F i, G p = none := fun p hp => (e2.node p hp).1
  have ex := frz_ex (G := G) (H := L) hG
  have nb : B.b ∉ F i := fun z => (e4 _ z).2.1.1 rfl
  have kinds := lkd_kinds l fun p hp => e2.node p hp
  have nf : ∀ p ∈ F i, ∀ u, H p = some u → Mut (some u) → ∀ o' u', X.H_0 p ≠ some (.frz o' u') := fun p hp u a m => I.nofrz a m
  have nn : ∀ a, ¬ B.nb a → a ∉ F i := fun a n z => n (e4 a z).2
  have xt : Xt B (frzG G L (F i)) L := j.next ex (fun a o n h => (l.out a (nn a n)).trans h) (fun a n _ => by unfold frzG; rw [if_neg (nn a n)]) (fun t h _ => by
    have nt : t.1 ∉ F i := fun z => (e4 _ z).2.tab t h rfl
    exact ⟨l.out _ nt, fun z => by unfold frzG; rw [if_neg nt]; exact z⟩) (fun a ps h => by
    by_cases ha : a ∈ F i
    · exact False.elim (kBad (kinds a ha) h)
    · rw [l.out a ha] at h
      exact ⟨_, h⟩)
  refine ⟨frzG G L (F i), L, I2, ⟨fun a u h => ?_, ?_, ?_, xt⟩, ?_, fun s2 G2 H2 J g => ?_⟩
  · unfold frzG at h
    split at h
    · exact h
    · rename_i hn
      rw [l.out a hn]
      exact j.ex a u h
  · unfold frzG
    rw [if_neg nb]
    exact j.no
  · obtain ⟨a, b, c, ns, h1, h2, h3⟩ := j.bag
    exact ⟨a, b, c, ns, by rw [l.out _ nb]; exact h1, ex_l ex h2, h3⟩
  · have s3 := y.put (i := i) (List.getElem?_eq_some_iff.mp e1).1 ex (H2 := L) (fun p _ _ hp => ⟨l.out p hp, by unfold frzG; rw [if_neg hp]⟩) (.sh (e2.dat hG l fun p hp => hp)) fun p hp => nomatch hp
    rw [set_same e1] at s3
    exact ⟨_, s3⟩
  · have h2 : ∀ p ∈ F i, H2 p = L p := fun p hp => by
      rcases kinds p hp with ⟨vs, _, b, _⟩ | ⟨u, od, _, b, _⟩ <;> rw [b] <;> exact g.keep p _ (e4 p hp).2 b
    obtain ⟨U, J2, u1, u2⟩ := unlock_all (H := H) (L := L) (F i) J e3 kinds h2 nf
    refine ⟨U, codG G G2, J2, Gr.back j g ex l.out (fun p hp => ?_) (fun p hp => (e4 p hp).2) hG u1 u2, fun a vs h => (u2 a fun z => ?_).trans h⟩
    rotate_left
    · rw [h2 a z] at h
      exact False.elim (kBad (kinds a z) h)
    rw [h2 p hp]
    rcases kinds p hp with ⟨vs, _, b, n, _⟩ | ⟨u, od, _, b, _⟩
    · exact ⟨_, b, ncod n⟩
    · exact ⟨_, b, ncod (nl rfl)⟩
def dBorT (i : Nat) (r : DE) : DE := fun δ Q => ownO δ[i]? fun _ o => r (δ.set i (some (.sh o.toD))) fun d => scTD d Q
theorem pd_borT {e : Expr} {r : DE} (i : Nat) (h : PD X B e r) : PD X B e (dBorT i r) := ⟨fun pins s σ H P I q => by
  obtain ⟨H0, G, δ, Q, j, st, hr, k⟩ := q
  have hr : ownO δ[i]? fun _ o => r (δ.set i (some (.sh o.toD))) fun d => scTD d Q := hr
  unfold ownO at hr
  split at hr
  · rename_i v o h1
    obtain ⟨G1, L, I2, j1, s1, back⟩ := bor_core3 I j st h1
    refine thn (h.run pins s σ L (fun x H2 => ∃ G2 d, scTD d Q ∧ Gr X.K B G1 L G2 H2 ∧ Dat X.K B G2 x d) I2 ⟨H0, G1, _, _, j1, s1, hr, fun d x G2 H2 q2 g2 h2 => ⟨G2, d, q2, g2, h2⟩⟩) fun u s2 ⟨x, H2, J, r2, G2, d, q2, g2, h2⟩ => ?_
    obtain ⟨U, G3, J2, g3, tu⟩ := back s2 G2 H2 J g2
    by_cases sc : scal d = true
    · have q2 : Q d := by
        cases d with
        | tup ds => cases sc
        | _ => exact q2.2
      exact ⟨x, U, J2, r2, k d x G3 U q2 g3 (scal_dat h2 sc)⟩
    · cases d with
      | tup ds =>
        cases h2 with
        | @tup a xs _ ga hx =>
          have ua := tu a xs (g2.j.ex _ _ ga)
          have hx3 := scal_dats (G2 := G3) hx q2.1
          cases e3 : G3 a with
          | none =>
            exact ⟨_, U, J2, r2, k _ _ _ U q2.2 (g3.trans (Gr.learn g3.j ua e3)) (.tup upd_same (hx3.mono (Ex.new e3)))⟩
          | some o' =>
            have := g3.j.ex _ _ e3
            rw [ua] at this
            cases this
            exact ⟨_, U, J2, r2, k _ _ _ U q2.2 g3 (.tup e3 hx3)⟩
      | _ => exact absurd q2.1 sc
  · exact hr.elim⟩
end
section
variable {i : Nat} {r : DE} {δ : DS} {Q : D → Prop}
theorem z_borT : dBorT i r δ Q = ownO δ[i]? fun _ o => r (δ.set i (some (.sh o.toD))) fun d => scTD d Q := propext Iff.rfl
theorem z_scTN : scTD .non Q = Q .non := by unfold scTD; simp [scal]
theorem z_scTB {b : Bool} : scTD (.bl b) Q = Q (.bl b) := by unfold scTD; simp [scal]
theorem z_scTI {b : Int} : scTD (.int b) Q = Q (.int b) := by unfold scTD; simp [scal]
theorem z_scTS {b : Str} : scTD (.str b) Q = Q (.str b) := by unfold scTD; simp [scal]
theorem z_scTT {ds : List D} : scTD (.tup ds) Q = (ds.all scal = true ∧ Q (.tup ds)) := propext Iff.rfl
end
end DL
namespace DL
open PySem PySem.Spec PyProof.Rows L2 Evl
end DL
namespace DL
open PySem PySem.Spec PyProof.Rows L2 Evl
end DL
namespace DL
open PySem PySem.Spec PyProof.Rows L2 Evl PySem.W
end DL
namespace DL
open PySem PySem.Spec PyProof.Rows L2 Evl PySem.W
end DL
namespace DL
open PySem PySem.Spec PyProof.Rows L2 Evl PySem.W
end DL
namespace DL
open PySem PySem.Spec PyProof.Rows L2 Evl PySem.W
end DL
namespace DL
open PySem PySem.Spec PyProof.Rows L2 Evl PySem.W
end DL
namespace DL
open PySem PySem.Spec PyProof.Rows L2 Evl
end DL
namespace DL
open PySem PySem.Spec PyProof.Rows L2 Evl LamX
end DL
namespace DL
open PySem PySem.Spec PyProof.Rows L2 Evl
end DL
namespace DL
open PySem PySem.Spec PyProof.Rows L2 Evl
end DL
namespace DL
open PySem PySem.Spec PyProof.Rows L2 Evl
section
variable {prog : Program} {w : World} {h0 : Heap}
/-- v is d, and repr shows it -/
structure Sw (prog : Program) (w : World) (h0 : Heap) (v : Value) (d : PyData) : Prop where
  rd : ∃ as, Reads h0 v d as
  sh : ∃ bs, ReadAtMost h0 d.depth bs ∧ ReprK prog w bs h0 d.depth v d.shown
theorem sw_reads {v : Value} {d : PyData} {as : List Addr} (r : Reads h0 v d as) (hs : d.showable = true) (hsm : d.hasDict = true → sysModules ∉ as) (hz : d.shown.length ≤ sizeLine) : Sw prog w h0 v d := ⟨⟨_, r⟩, ReprK.of_reads r hs hsm hz⟩
inductive SwAll (prog : Program) (w : World) (h0 : Heap) : List Value → List PyData → Prop
  | nil : SwAll prog w h0 [] []
  | cons {v : Value} {d : PyData} {vs : List Value} {ds : List PyData} : Sw prog w h0 v d → SwAll prog w h0 vs ds → SwAll prog w h0 (v :: vs) (d :: ds)
theorem sw_all : ∀ {vs : List Value} {ds : List PyData}, SwAll prog w h0 vs ds → (∃ as, ReadsAll h0 vs ds as) ∧ ∃ bs, ReadAtMost h0 (PyData.depthAll ds) bs ∧ ReprAllK prog w bs h0 (PyData.depthAll ds) vs (PyData.shownAll ds)
  | _, _, .nil => ⟨⟨_, .nil⟩, [], (fun _ h => nomatch h), by simp only [PyData.shownAll]; exact .nil⟩
  | _, _, .cons (d := d) (ds := ds) x xs => by
    obtain ⟨⟨as, r⟩, b1, hb1, k1⟩ := x
    obtain ⟨⟨bs, rs⟩, b2, hb2, k2⟩ := sw_all xs
    refine ⟨⟨_, .cons r rs⟩, b1 ++ b2, fun b hm => ?_, ?_⟩
    · simp only [PyData.depthAll]
      rcases List.mem_append.mp hm with hm | hm
      · obtain ⟨d', as', r', hd'⟩ := hb1 b hm
        exact ⟨d', as', r', Nat.le_trans hd' (Nat.le_max_left _ _)⟩
      · obtain ⟨d', as', r', hd'⟩ := hb2 b hm
        exact ⟨d', as', r', Nat.le_trans hd' (Nat.le_max_right _ _)⟩
    · simp only [PyData.depthAll, PyData.shownAll]
      exact .cons ((k1.more fun b hb => List.mem_append_left _ hb).level_le (Nat.le_max_left _ _)) (k2.more_le (fun b hb => List.mem_append_right _ hb) (Nat.le_max_right _ _))
theorem sw_list {a : Addr} {o : Obj} {vs : Array Value} {n : Nat} {ds : List PyData} (h1 : h0.get? a = some o) (h2 : o.cls = .type "list") (h3 : o.data = .seq vs n) (h : SwAll prog w h0 vs.toList ds) : Sw prog w h0 (.ref a) (.list ds) := by
  obtain ⟨⟨as, rs⟩, bs, hb, hk⟩ := sw_all h
  have r : Reads h0 (.ref a) (.list ds) _ := .list h1 h2 h3 rs
  have hna : a ∉ bs := not_mem_of_deeper r (by simp only [PyData.depth]; omega) hb
  refine ⟨⟨_, r⟩, a :: bs, ReadAtMost.cons r (by simp only [PyData.depth]; omega) hb, ?_⟩
  simp only [PyData.depth, PyData.shown]
  obtain ⟨l⟩ := vs
  cases l with
  | nil =>
    cases h
    simp only [PyData.shownAll, listText_nil]
    exact ReprK.listEmpty h1 h2 h3
  | cons x l => exact ReprK.list h1 h2 h3 hna (by simpa using hk.length_eq) (fun i y e => hk.item i y (by simpa using e))
theorem sw_tup {a : Addr} {o : Obj} {vs : Array Value} {n : Nat} {ds : List PyData} (h1 : h0.get? a = some o) (h2 : o.cls = .type "tuple") (h3 : o.data = .seq vs n) (h : SwAll prog w h0 vs.toList ds) : Sw prog w h0 (.ref a) (.tuple ds) := by
  obtain ⟨⟨as, rs⟩, bs, hb, hk⟩ := sw_all h
  have r : Reads h0 (.ref a) (.tuple ds) _ := .tuple h1 h2 h3 rs
  have hna : a ∉ bs := not_mem_of_deeper r (by simp only [PyData.depth]; omega) hb
  refine ⟨⟨_, r⟩, a :: bs, ReadAtMost.cons r (by simp only [PyData.depth]; omega) hb, ?_⟩
  simp only [PyData.depth, PyData.shown]
  exact ReprK.tuple h1 h2 h3 hna hk
theorem shows_list {a : Addr} {o : Obj} {vs : Array Value} {n : Nat} {ds : List PyData} (h1 : h0.get? a = some o) (h2 : o.cls = .type "list") (h3 : o.data = .seq vs n) (h : SwAll prog w h0 vs.toList ds) (hz : (listText (PyData.shownAll ds)).length ≤ sizeLine) : ShowsBy prog w h0 a (.list ds) "list" "list.__repr__" := by
  obtain ⟨⟨as, rs⟩, bs, hb, hk⟩ := sw_all h
  have hna : a ∉ bs := not_mem_of_deeper (.list h1 h2 h3 rs) (by simp only [PyData.depth]; omega) hb
  refine ⟨F.slot_list_repr.toG, F.slot_list_str, F.slot_list_format, fun s hk0 => ⟨o, hk0 _ _ h1, h2⟩, fun A E s Q hg hu hk0 hQ => ?_⟩
  simp only [PyData.depth] at hu
  simp only [PyData.shown] at hQ
  obtain ⟨l⟩ := vs
  cases l with
  | nil =>
    cases h
    simp only [PyData.shownAll, listText_nil] at hQ
    exact call_list_repr_empty ⟨o, hk0 _ _ h1, h2⟩ (hk0 _ _ h1) h3 (hQ s.heap _ _ fun _ _ e => e)
  | cons x l => exact call_list_reprK h1 h2 h3 hna (by simpa using hk.length_eq) (fun i y e => hk.item i y (by simpa using e)) hg (fun b _ => Clear.nil b) hu hk0 hQ hz
theorem shows_tup {a : Addr} {o : Obj} {vs : Array Value} {n : Nat} {ds : List PyData} (h1 : h0.get? a = some o) (h2 : o.cls = .type "tuple") (h3 : o.data = .seq vs n) (h : SwAll prog w h0 vs.toList ds) (hz : (tupleText (PyData.shownAll ds)).length ≤ sizeLine) : ShowsBy prog w h0 a (.tuple ds) "tuple" "tuple.__repr__" := by
  obtain ⟨⟨as, rs⟩, bs, hb, hk⟩ := sw_all h
  have hna : a ∉ bs := not_mem_of_deeper (.tuple h1 h2 h3 rs) (by simp only [PyData.depth]; omega) hb
  refine ⟨F.slot_tuple_repr, F.slot_tuple_str, F.slot_tuple_format, fun s hk0 => ⟨o, hk0 _ _ h1, h2⟩, fun A E s Q hg hu hk0 hQ => ?_⟩
  simp only [PyData.depth] at hu
  simp only [PyData.shown] at hQ
  exact call_tuple_reprK h1 h2 h3 hna hk hg (fun b _ => Clear.nil b) hu hk0 hQ hz
theorem repr_shows {T idr : String} {a : Addr} {d : PyData} {A : Around} {E : Value → Shared → Prop} {s : Shared} {Q : Value → Shared → Prop} (S : ShowsBy prog w h0 a d T idr) (hg : A.guards = some []) (hu : A.units + (d.depth + 1) < cLine) (hk0 : ∀ b o, h0.get? b = some o → s.heap.get? b = some o)
    (hQ : ∀ h' u tk, (∀ b o, s.heap.get? b = some o → h'.get? b = some o) → Q (.str d.shown u) { s with heap := h', toks := tk }) : wpAny (model prog w) A (call (.builtin "repr") [.ref a]) Q E s :=
  call_repr_slot (by omega) (S.typeIs s hk0) S.slotRepr (S.call A.in1 E s _ hg (by show A.units + 1 + d.depth < cLine; omega) hk0 fun h' u tk hk => ⟨_, _, rfl, hQ h' u tk hk⟩)
end
end DL
namespace DL
open PySem PySem.Spec PyProof.Rows L2 Evl
mutual
def rpy : D → PyData
  | .dic ks => kpy ks
  | .lst xs => .list (rpyL xs)
  | .tup xs => .tuple (rpyL xs)
  | .non => .none
  | .bl b => .bool b
  | .int i => .int i
  | .str x => .str x
  | .ktup _ => .none
  | .obj _ _ => .none
  | .bag => .none
def rpyL : List D → List PyData
  | [] => []
  | x :: xs => rpy x :: rpyL xs
end
mutual
def rOk : D → Prop
  | .dic ks => RepK ks
  | .lst xs => rOkL xs
  | .tup xs => rOkL xs
  | .non => True
  | .bl _ => True
  | .int i => D.fine (.int i) = true
  | .str x => D.fine (.str x) = true ∧ D.wt (.str x) ≤ 15000000
  | .ktup _ => False
  | .obj _ _ => False
  | .bag => False
def rOkL : List D → Prop
  | [] => True
  | x :: xs => rOk x ∧ rOkL xs
end
section
variable {X : Cx} {B : Bx} {pins : List (Addr × Obj)} {σ : L2.St} {H G : Hp} {s : Shared}
theorem sw_dic (I : Inv X pins σ H s) (j : Jn X.K B G H) {v : V} {u : Value} {ks : List (D × D)} (hd : Dat X.K B G v (.dic ks)) (ru : RelV v u) (rk : RepK ks) : Sw X.prog X.w s.heap u (kpy ks) := by
  have fin : ∀ {a : Addr}, (a == sysModules) = false → Reads s.heap (.ref a) (kpy ks) [a] → Sw X.prog X.w s.heap (.ref a) (kpy ks) := fun {a} hs r =>
    sw_reads r (by unfold kpy; rw [PyData.showable]; exact kpy_show rk.vp rk.kp) (fun _ m => by rw [List.mem_singleton] at m; subst m; simp at hs) (kpy_len rk)
  cases hd with
  | @dK a od kvs ks h3 h4 =>
    cases ru
    obtain ⟨hs, hgd, hx, es, ep, vs, hdt, hsz, kv, hm⟩ := I.frzK (j.ex _ _ h3)
    have hvl : kvs.length = vs.length := Paired.length kv
    obtain ⟨es2, ep2, ⟨o2, ho2, hx2, hd2⟩, hsz2, hk2⟩ := Heap.DictOf.raw hm.dictOf
    have at_ : ∀ (i : Nat) (k1 : Key) (v1 : V) (en : DictEntry), kvs[i]? = some (k1, v1) → es2[i]? = some en → RelV (kV k1) en.key ∧ RelV v1 en.val := fun i k1 v1 en e1 e2 => by
      obtain ⟨u, e3, ru⟩ := kv_get kv e1
      obtain ⟨hi, e4⟩ := Array.getElem?_eq_some_iff.mp e2
      have := hk2 i hi k1 u e3
      rw [e4] at this
      exact ⟨relV_key this.1, by rw [this.2]; exact ru⟩
    refine fin hs (reads_dict I j.ex (kx := kvs.map fun p => kV p.1) (vx := kvs.map (·.2)) ho2 hx2 hd2 ?_ ?_ (datK_keys h4) (datK_vals h4) rk)
    · refine vals_of_get (by rw [List.length_map, List.length_map, hvl, ← hsz2]; exact (Array.length_toList).symm) fun i a b ha hb => ?_
      rw [List.getElem?_map] at ha hb
      obtain ⟨⟨k1, v1⟩, e1, rfl⟩ := Option.map_eq_some_iff.mp ha
      obtain ⟨en, e2, rfl⟩ := Option.map_eq_some_iff.mp hb
      rw [Array.getElem?_toList] at e2
      exact (at_ i k1 v1 en e1 e2).1
    · refine vals_of_get (by rw [List.length_map, List.length_map, hvl, ← hsz2]; exact (Array.length_toList).symm) fun i a b ha hb => ?_
      rw [List.getElem?_map] at ha hb
      obtain ⟨⟨k1, v1⟩, e1, rfl⟩ := Option.map_eq_some_iff.mp ha
      obtain ⟨en, e2, rfl⟩ := Option.map_eq_some_iff.mp hb
      rw [Array.getElem?_toList] at e2
      exact (at_ i k1 v1 en e1 e2).2
  | @dT a od kvs ks h3 h4 =>
    cases ru
    obtain ⟨hgd, z, hs, xs, pr, o', es, ep, ho, hx, hdt, he, _⟩ := I.hok a _ (j.ex _ _ h3)
    rw [hgd] at ho
    cases ho
    have hxl : kvs.length = xs.length := Paired.length pr
    have hel : es.size = xs.length := size_of_entries he
    have hkeys : es.toList.map (·.key) = (xs.map fun x => x.2.1).map Value.ref := by rw [he, List.map_map, List.map_map]; rfl
    obtain ⟨G2, g2, d2⟩ := Gr.tupKs j (qs := xs.map fun x => x.2.1) (kk := kvs.map (·.1)) (by rw [List.length_map, List.length_map]; exact hxl.symm) fun i q kk e1 e2 => by
      rw [List.getElem?_map] at e1 e2
      obtain ⟨⟨k1, v1⟩, e3, rfl⟩ := Option.map_eq_some_iff.mp e2
      obtain ⟨b, hb, r1, r2, r3⟩ := paired_get pr e3
      rw [hb] at e1
      cases e1
      exact r2
    rw [datT_keys h4] at d2
    refine fin hs (reads_dict I g2.j.ex (kx := (xs.map fun x => x.2.1).map V.ref) (vx := kvs.map (·.2)) hgd hx hdt ?_ ?_ d2 ((datT_vals h4).mono g2.ex) rk)
    · rw [hkeys]
      exact vals_refs _
    · refine vals_of_get (by rw [List.length_map, List.length_map, hxl, ← hel]; exact (Array.length_toList).symm) fun i a b ha hb => ?_
      rw [List.getElem?_map] at ha hb
      obtain ⟨⟨k1, v1⟩, e1, rfl⟩ := Option.map_eq_some_iff.mp ha
      obtain ⟨en, e2, rfl⟩ := Option.map_eq_some_iff.mp hb
      obtain ⟨b, hb2, r1, r2, r3⟩ := paired_get pr e1
      rw [he, List.getElem?_map, hb2] at e2
      cases e2
      exact r3
mutual
theorem sw_dat (I : Inv X pins σ H s) (j : Jn X.K B G H) : ∀ {v : V} {d : D}, Dat X.K B G v d → ∀ {u : Value}, RelV v u → rOk d → Sw X.prog X.w s.heap u (rpy d)
  | _, _, .non, _, r, _ => by cases r; exact sw_reads .none rfl (fun h => nomatch h) (by rw [sizeLine_eq]; decide +kernel)
  | _, _, .bl b, _, r, _ => by cases r; exact sw_reads (.bool b) rfl (fun h => nomatch h) (by rw [sizeLine_eq]; cases b <;> decide +kernel)
  | _, _, .int i, _, r, ok => by
    obtain ⟨t, rfl⟩ := (show ∃ t, _ = Value.int i t from r)
    exact sw_reads (.int i t) (py_show (.int i) (by simpa [rOk] using ok)) (fun h => nomatch h) (Nat.le_trans (py_len (.int i) (by simpa [rOk] using ok)) (by rw [sizeLine_eq]; simp [D.wt]))
  | _, _, .str x, _, r, ok => by
    obtain ⟨t, rfl⟩ := (show ∃ t, _ = Value.str x t from r)
    have ok : D.fine (.str x) = true ∧ D.wt (.str x) ≤ 15000000 := by rw [rOk] at ok; exact ok
    exact sw_reads (.str x t) (py_show (.str x) ok.1) (fun h => nomatch h) (Nat.le_trans (py_len (.str x) ok.1) (by rw [sizeLine_eq]; omega))
  | _, _, .lst h t, _, r, ok => by
    cases r
    obtain ⟨its, rv, p, _⟩ := I.list (sq_of (j.ex _ _ h))
    obtain ⟨o, h1, h2, n, h3⟩ := p.isList
    rw [rpy]
    exact sw_list h1 h2 h3 (sws_dat I j t rv (by rw [rOk] at ok; exact ok))
  | _, _, .tup h t, _, r, ok => by
    cases r
    obtain ⟨its, rv, p, _⟩ := I.tuple (tx j.ex h)
    obtain ⟨o, h1, h2, n, h3⟩ := (show s.heap.IsTuple _ its.toArray from p)
    rw [rpy]
    exact sw_tup h1 h2 h3 (sws_dat I j t rv (by rw [rOk] at ok; exact ok))
  | _, _, .dK h t, _, r, ok => by
    rw [rpy]
    exact sw_dic I j (.dK h t) r (by rw [rOk] at ok; exact ok)
  | _, _, .dT h t, _, r, ok => by
    rw [rpy]
    exact sw_dic I j (.dT h t) r (by rw [rOk] at ok; exact ok)
  | _, _, .ktup _ _, _, _, ok => by rw [rOk] at ok; exact ok.elim
  | _, _, .bag, _, _, ok => by rw [rOk] at ok; exact ok.elim
  | _, _, .obj _ _ _, _, _, ok => by rw [rOk] at ok; exact ok.elim
theorem sws_dat (I : Inv X pins σ H s) (j : Jn X.K B G H) : ∀ {vs : List V} {ds : List D}, Dats X.K B G vs ds → ∀ {us : List Value}, Vals vs us → rOkL ds → SwAll X.prog X.w s.heap us (rpyL ds)
  | _, _, .nil, _, r, _ => by cases r; rw [rpyL]; exact .nil
  | _, _, .cons h t, _, r, ok => by
    cases r with
    | cons r1 r2 =>
      rw [rOkL] at ok
      rw [rpyL]
      exact .cons (sw_dat I j h r1 ok.1) (sws_dat I j t r2 ok.2)
end
end
def cReprN : FD := fun ds Q => match ds with
  | [.lst xs] => (rOkL xs ∧ (PyData.list (rpyL xs)).depth ≤ 66 ∧ (PyData.list (rpyL xs)).shown.length ≤ sizeLine) ∧ Q (.str (PyData.list (rpyL xs)).shown)
  | [.tup xs] => (rOkL xs ∧ (PyData.tuple (rpyL xs)).depth ≤ 66 ∧ (PyData.tuple (rpyL xs)).shown.length ≤ sizeLine) ∧ Q (.str (PyData.tuple (rpyL xs)).shown)
  | ds => cReprA ds Q
theorem call_reprN {X : Cx} {B : Bx} (hg : X.A.guards = some []) (hu : X.A.units + 70 < cLine) : CallR X (.builtin "repr") (cLift X.K B cReprN) := by
  intro pins s σ H vs us P I rv h
  obtain ⟨G, ds, Q, j, hd, hq, k⟩ := h
  have other : cReprA ds Q → wpAny (model X.prog X.w) X.A (call (.builtin "repr") us) (EP X pins σ P) X.xe s := fun q => call_reprA hg hu pins s σ H vs us P I rv ⟨G, ds, Q, j, hd, q, k⟩
  cases hd with
  | nil => exact other hq
  | cons h1 h2 =>
    cases h2 with
    | cons _ _ => cases h1 <;> exact other hq
    | nil =>
      cases h1 with
      | @lst a xs ds h3 h4 =>
        obtain ⟨⟨ok, dep, sz⟩, q⟩ := hq
        obtain ⟨u, rfl, ru⟩ := vals1 rv
        cases (show u = Value.ref a from ru)
        obtain ⟨its, rv2, p, _⟩ := I.list (sq_of (j.ex _ _ h3))
        obtain ⟨o, e1, e2, n, e3⟩ := p.isList
        exact repr_shows (shows_list e1 e2 e3 (sws_dat I j h4 rv2 ok) (by simpa only [PyData.shown] using sz)) hg (by omega) (fun _ _ e => e) fun h' u tk hk => ⟨.str _, H, I.kept hk, ⟨_, rfl⟩, k _ _ G H q (Gr.refl j) (.str _)⟩
      | @tup a xs ds h3 h4 =>
        obtain ⟨⟨ok, dep, sz⟩, q⟩ := hq
        obtain ⟨u, rfl, ru⟩ := vals1 rv
        cases (show u = Value.ref a from ru)
        obtain ⟨its, rv2, p, _⟩ := I.tuple (tx j.ex h3)
        obtain ⟨o, e1, e2, n, e3⟩ := (show s.heap.IsTuple _ its.toArray from p)
        exact repr_shows (shows_tup e1 e2 e3 (sws_dat I j h4 rv2 ok) (by simpa only [PyData.shown] using sz)) hg (by omega) (fun _ _ e => e) fun h' u tk hk => ⟨.str _, H, I.kept hk, ⟨_, rfl⟩, k _ _ G H q (Gr.refl j) (.str _)⟩
      | _ => exact other hq
section
variable {Q : D → Prop} {xs : List D} {ks : List (D × D)} {i : Int} {x : Str} {b : Bool}
theorem z_rpNl : cReprN [.lst xs] Q = ((rOkL xs ∧ (PyData.list (rpyL xs)).depth ≤ 66 ∧ (PyData.list (rpyL xs)).shown.length ≤ sizeLine) ∧ Q (.str (PyData.list (rpyL xs)).shown)) := propext Iff.rfl
theorem z_rpNt : cReprN [.tup xs] Q = ((rOkL xs ∧ (PyData.tuple (rpyL xs)).depth ≤ 66 ∧ (PyData.tuple (rpyL xs)).shown.length ≤ sizeLine) ∧ Q (.str (PyData.tuple (rpyL xs)).shown)) := propext Iff.rfl
theorem z_rpNd : cReprN [.dic ks] Q = cReprA [.dic ks] Q := propext Iff.rfl
theorem z_rpNi : cReprN [.int i] Q = cReprA [.int i] Q := propext Iff.rfl
theorem z_rpNs : cReprN [.str x] Q = cReprA [.str x] Q := propext Iff.rfl
theorem z_rpNb : cReprN [.bl b] Q = cReprA [.bl b] Q := propext Iff.rfl
theorem z_rpNn : cReprN [.non] Q = cReprA [.non] Q := propext Iff.rfl
end
end DL
namespace DL
open PySem PySem.Spec PyProof.Rows L2 Evl
end DL
namespace DL
open PySem PySem.Spec PyProof.Rows L2 Evl
section
variable {X : Cx} {B : Bx} {o e1 e2 : Expr} {ρ : DR} {ri r : DE} {pos : Pos}
theorem Owns.insert {K : PySem.W.Frag} {G H : Hp} {u : V} {d : D} (hd : Dat K B G u d) : ∀ {vs : List V} {xs : List OD} {f : List Addr} (n : Nat), Owns K B G H vs xs f → Owns K B G H (vs.take n ++ [u] ++ vs.drop n) (xs.take n ++ [OD.sh d] ++ xs.drop n) f
  | _, _, _, 0, h => Owns.cons (.sh hd) h
  | _, _, _, n + 1, .nil => Owns.cons (.sh hd) .nil
  | _, _, _, n + 1, .cons h1 h2 => Owns.cons h1 (Owns.insert hd n h2)
def insI (kd : D) (K : Int → Prop) : Prop := match kd with
  | .int n => K n
  | _ => False
def dInsR (ρ : DR) (ri r : DE) : DTS := fun W δ => ρ δ fun i π => lstAt δ i π fun xs => ri δ fun kd => r δ fun d => insI kd fun n => (xs.length < sizeLine ∧ 0 ≤ n ∧ n < 2 ^ 63) ∧ W.nx (putS δ i π (.lst (xs.take n.toNat ++ [OD.sh d] ++ xs.drop n.toNat)))
theorem psd_insR {apos cpos : Pos} (ho : PR X B o ρ) (hi : PD X B e1 ri) (he : PD X B e2 r)
    (hbase : attributeBase o "insert" X.env (eval o X.env) = eval o X.env := by rfl)
    (hfew : ((backTo cpos (starEach [e1, e2] X.env)).all (fun x => !x.1) && (backToKw cpos (keywordEach [] X.env)).all (fun x => x.1.isSome) && decide ([e1, e2].length + ([] : List Keyword).length + (if ([] : List Keyword).isEmpty then 0 else 1) < 30)) = true := by rfl)
    (hline : (apos.endLine == cpos.line) = true := by rfl) (hs : starEach [e1, e2] X.env = (false, eval e1 X.env) :: starEach [e2] X.env := by rfl) (hs2 : starEach [e2] X.env = (false, eval e2 X.env) :: starEach [] X.env := by rfl) (hplain : (backTo cpos (starEach [e2] X.env)).any (·.1) = false := by rfl)
    (hsw : swapsWith (.Call (.Attribute o "insert" apos) [e1, e2] [] cpos) none pos.line X.env = pure false := by rfl) :
    PSD X B (.Expr (.Call (.Attribute o "insert" apos) [e1, e2] [] cpos) pos) (dInsR ρ ri r) := ps_mono (ps_expr (pe_bm PySem.F.plainAttrs_list PySem.F.slot_list_insert PySem.F.type_list_insert mt_insert ho (pa_cons hi (pa_cons he pa_nil hs2) hs) hbase hfew hline hs hplain) hsw) fun E σ H q => by
  obtain ⟨G0, H0, G, δ, W, g0, st, h, k⟩ := q
  refine ⟨H0, G, δ, _, g0.j, st, h, fun i π v0 v G2 H2 q2 g2 h0 hv => ?_⟩
  obtain ⟨xs, hx, q2⟩ := lstAt_at q2
  obtain ⟨_, a1, _⟩ := (st.gr g2).place hx h0 hv (Gr.refl g2.j)
  cases a1 with
  | @lst p vs _ f b1 b2 b3 =>
    refine ⟨.inl ⟨rfl, vs, sq_of b1⟩, H0, G2, δ, _, g2.j, st.gr g2, q2, fun kd uk G3 H3 q3 g3 h3 => ?_⟩
    refine ⟨H0, G3, δ, _, g3.j, (st.gr g2).gr g3, q3, fun d u G4 H4 q4 g4 h4 => ?_⟩
    cases h3 with
    | int n =>
      obtain ⟨⟨n0, n1, n2⟩, q4⟩ := (show (xs.length < sizeLine ∧ 0 ≤ n ∧ n < 2 ^ 63) ∧ _ from q4)
      obtain ⟨fs, c1, c2, c3, _, c5⟩ := (st.gr g2).place hx h0 hv (g3.trans g4)
      cases c1 with
      | @lst _ vs' _ f' d1 d2 d3 =>
        refine ⟨p, vs', n, u, rfl, rfl, d1, by rw [d3.len]; exact n0, n1, n2, ?_⟩
        have hp := c3 p List.mem_cons_self
        have np := (List.nodup_cons.mp c2).1
        have c4 := Owns.insert h4 n.toNat (d3.past (ho := .lst (vs'.take n.toNat ++ [u] ++ vs'.drop n.toNat)) np)
        exact k.nx _ _ _ _ q4 ((((g0.trans g2).trans g3).trans g4).own hp.1 d2 hp.2) ((g2.ex.trans g3.ex).trans g4.ex) (c5 p _ _ (p :: f') List.mem_cons_self (.lst upd_same d2 c4) c2 fun q hq => hq)
    | _ => exact q4.elim
end
section
variable {ρ : DR} {ri r : DE} {W : DEnds} {δ : DS} {K : Int → Prop} {n : Int}
theorem z_insR : dInsR ρ ri r W δ = ρ δ fun i π => lstAt δ i π fun xs => ri δ fun kd => r δ fun d => insI kd fun n => (xs.length < sizeLine ∧ 0 ≤ n ∧ n < 2 ^ 63) ∧ W.nx (putS δ i π (.lst (xs.take n.toNat ++ [OD.sh d] ++ xs.drop n.toNat))) := propext Iff.rfl
theorem z_insI : insI (.int n) K = K n := propext Iff.rfl
end
section
variable {X : Cx} {B : Bx} {a b c : Expr} {ra rb : OE} {t : DT} {pos : Pos} {δ : DS} {Q : OD → Prop}
def iteO (b : Bool) (ra rb : OE) (δ : DS) (Q : OD → Prop) : Prop := if b = true then ra δ Q else rb δ Q
theorem iteO_t : iteO true ra rb δ Q = ra δ Q := propext Iff.rfl
theorem iteO_f : iteO false ra rb δ Q = rb δ Q := propext Iff.rfl
end
end DL
namespace DL
open PySem PySem.Spec PyProof.Rows L2 Evl
def oShl : O2 := oIc CPow fun i j => .int (i * 2 ^ j.toNat)
theorem op_shl_d {X : Cx} {B : Bx} : OpR X (binaryOp .LShift) (rLift X.K B oShl) := op_intc op_shl fun _ _ _ => .int _
theorem z_shl {a b : Int} {Q : D → Prop} : oShl (.int a) (.int b) Q = (CPow a b ∧ Q (.int (a * 2 ^ b.toNat))) := propext Iff.rfl
end DL
namespace DL
open PySem PySem.Spec PyProof.Rows L2 Evl
end DL
namespace DL
open PySem PySem.Spec PyProof.Rows L2 Evl
end DL
namespace DL
open PySem PySem.Spec PyProof.Rows L2 Evl PySem.W
end DL
namespace DL
open PySem PySem.Spec PyProof.Rows L2 Evl
theorem Owns.pop {K : PySem.W.Frag} {B : Bx} {G H : Hp} {d : D} : ∀ {xs : List OD} {vs : List V} {f : List Addr}, Owns K B G H vs (xs ++ [OD.sh d]) f → ∃ u, vs[vs.length - 1]? = some u ∧ Dat K B G u d ∧ vs ≠ [] ∧ Owns K B G H vs.dropLast xs f
  | [], _, _, h => by
    cases h with
    | cons h1 h2 =>
      cases h2
      cases h1 with
      | sh hd => exact ⟨_, rfl, hd, by simp, .nil⟩
  | x :: xs, _, _, h => by
    cases h with
    | @cons v o f vs os g h1 h2 =>
      obtain ⟨u, a, b, c, e⟩ := Owns.pop h2
      obtain ⟨w, ws, rfl⟩ : ∃ w ws, vs = w :: ws := by
        cases vs with
        | nil => exact absurd rfl c
        | cons w ws => exact ⟨w, ws, rfl⟩
      refine ⟨u, ?_, b, by simp, ?_⟩
      · simpa using a
      · exact .cons h1 e
end DL
namespace DL
open PySem PySem.Spec PyProof.Rows L2 Evl
end DL
namespace PySem.SeqAt
open AutoSeq1 (wpAny_loadPart')
open MeetsSeq
end PySem.SeqAt
namespace DL
open PySem PySem.Spec PyProof.Rows L2 Evl
end DL
namespace DL
open PySem PySem.Spec PyProof.Rows L2 Evl
end DL
namespace DL
open PySem PySem.Spec PyProof.Rows L2 Evl
end DL
namespace DL
open PySem PySem.Spec PyProof.Rows L2 Evl
end DL
namespace L2
open PySem PySem.Spec PyProof.Rows PySem.W
section
variable {X : Cx} {pins : List (Addr × Obj)} {σ : St} {H : Hp} {s : Shared} {d : Addr} {o : Obj} {P : Program} {w : World} {K : PySem.W.Frag} {es : Array DictEntry} {ep : Nat}
theorem frzTV {kvs : List (List Key × V)} (I : Inv X pins σ H s) (h : H d = some (.frz o (.dT kvs))) :
    (d == sysModules) = false ∧ s.heap.get? d = some o ∧ o.ExactDict ∧ ∃ (es : Array DictEntry) (ep : Nat), o.data = .dict es ep ∧ es.size = kvs.length ∧
      ∀ (i : Nat) (k : List Key) (v : V), kvs[i]? = some (k, v) → ∃ (en : DictEntry) (q : Addr), es[i]? = some en ∧ en.key = .ref q ∧ H q = some (.tup (k.map kV)) ∧ RelV v en.val := by
  obtain ⟨hd, z, hs, xs, pr, o', es, ep, ho, hx, hdt, he, _⟩ := I.hok d _ h
  rw [hd] at ho
  cases ho
  refine ⟨hs, hd, hx, es, ep, hdt, ?_, fun i k v e => ?_⟩
  · have l1 : es.size = xs.length := size_of_entries he
    have l2 : kvs.length = xs.length := Paired.length pr
    omega
  · obtain ⟨b, hb, e1, e2, e3⟩ := paired_get pr e
    have q := entry_at he i
    rw [hb] at q
    exact ⟨_, b.2.1, q, rfl, e2, e3⟩
end
end L2
namespace DL
open PySem PySem.Spec PyProof.Rows L2 Evl
end DL
namespace L2
open PySem PySem.Spec PyProof.Rows PySem.W
end L2
namespace DL
open PySem PySem.Spec PyProof.Rows L2 Evl
end DL
namespace DL
open PySem PySem.Spec PyProof.Rows L2 Evl
end DL
namespace DL
open PySem PySem.Spec PyProof.Rows L2 Evl
end DL
namespace DL
open PySem PySem.Spec PyProof.Rows L2 Evl
theorem owns_sh {K : PySem.W.Frag} {B : Bx} {G H : Hp} : ∀ {vs : List V} {ds : List D}, Dats K B G vs ds → Owns K B G H vs (ds.map OD.sh) []
  | _, _, .nil => .nil
  | _, _, .cons h t => Owns.cons (f := []) (.sh h) (owns_sh t)
section
variable {W : DEnds} {δ : DS} {S : FI} {i C j : Nat} {t1 t2 : DTS} {v : V} {o : OD} {p : Addr} {os : List OD} {d : D}
def ifOwO (x : Option (Option SD)) (P Q : Prop) : Prop := match x with
  | some (some (.ow _ _)) => P
  | _ => Q
theorem z_ifOwO {P Q : Prop} : ifOwO (some (some (.ow v o))) P Q = P := propext Iff.rfl
theorem z_ifOwS {P Q : Prop} : ifOwO (some (some (.sh d))) P Q = Q := propext Iff.rfl
end
end DL
namespace DL
open PySem PySem.Spec PyProof.Rows L2 Evl
def tIfOw (j : Nat) (t1 t2 : DT) : DT := fun δ Q => match δ[j]? with
  | some (some (.ow _ _)) => t1 δ Q
  | _ => t2 δ Q
section
variable {X : Cx} {B : Bx} {e : Expr} {j : Nat} {t1 t2 : DT} {δ : DS} {Q : Bool → Prop}
theorem ptd_ifOw (h1 : PTD X B e t1) (h2 : PTD X B e t2) : PTD X B e (tIfOw j t1 t2) := ⟨fun pins s σ H P I q => by
  obtain ⟨H0, G, δ, Q, g, st, h, k⟩ := q
  have h : (match δ[j]? with | some (some (.ow _ _)) => t1 δ Q | _ => t2 δ Q) := h
  split at h
  · exact h1.run pins s σ H P I ⟨H0, G, δ, Q, g, st, h, k⟩
  · exact h2.run pins s σ H P I ⟨H0, G, δ, Q, g, st, h, k⟩⟩
theorem z_tIfOw : tIfOw j t1 t2 δ Q = ifOwO δ[j]? (t1 δ Q) (t2 δ Q) := propext Iff.rfl
/-- what is handed on, kept as one's own, is data -/
def dNorm (i : Nat) (ts : DTS) : DTS := fun W δ => match δ[i]? with
  | some (some (.ow _ (.sh d))) => ts W (δ.set i (some (.sh d)))
  | _ => ts W δ
theorem norm_lift {K : PySem.W.Frag} {E : Ends} {σ : L2.St} {H : Hp} {i : Nat} {t : DTS} (q : liftS K B (dNorm i t) E σ H) : liftS K B t E σ H := by
  obtain ⟨G0, H0, G, δ, W, g, st, h, k⟩ := q
  have h : (match δ[i]? with | some (some (.ow _ (.sh d))) => t W (δ.set i (some (.sh d))) | _ => t W δ) := h
  split at h
  · rename_i v d h1
    obtain ⟨F, y⟩ := st.ex
    obtain ⟨e1, e2, e3, e4⟩ := y.ow h1
    have hd : Dat K B G v d := by
      generalize F i = f at e2
      cases e2 with
      | sh z => exact z
    have y2 := y.put (i := i) (ov := some v) (od := some (.sh d)) (fi := []) (List.getElem?_eq_some_iff.mp e1).1 (Ex.refl G) (H2 := H) (fun _ _ _ _ => ⟨rfl, rfl⟩) (.sh hd) fun q hq => nomatch hq
    rw [set_same e1] at y2
    exact ⟨G0, H0, G, _, W, g, ⟨_, y2⟩, h, k⟩
  · exact ⟨G0, H0, G, δ, W, g, st, h, k⟩
theorem psds_norm {sts : List Stmt} {t : DTS} (i : Nat) (h : PSsD X B sts t) : PSsD X B sts (dNorm i t) := ⟨fun pins s σ H E I hw => h.run pins s σ H E I (norm_lift hw)⟩
def normQ (x : Option (Option SD)) (P : D → Prop) (Q : Prop) : Prop := match x with
  | some (some (.ow _ (.sh d))) => P d
  | _ => Q
theorem z_norm {ts : DTS} {W : DEnds} {i : Nat} : dNorm i ts W δ = normQ δ[i]? (fun d => ts W (δ.set i (some (.sh d)))) (ts W δ) := propext Iff.rfl
theorem z_normS {v : V} {d : D} {P : D → Prop} {Q : Prop} : normQ (some (some (.ow v (.sh d)))) P Q = P d := propext Iff.rfl
theorem z_normL {v : V} {os : List OD} {P : D → Prop} {Q : Prop} : normQ (some (some (.ow v (.lst os)))) P Q = Q := propext Iff.rfl
end
end DL
namespace L2
open PySem PySem.Spec PyProof.Rows PySem.W
end L2
namespace DL
open PySem PySem.Spec PyProof.Rows L2 Evl
end DL
namespace L2
open PySem PySem.Spec PyProof.Rows
section
variable {prog : Program} {w : World} {A : Around} {R : Result → Shared → Prop} {elt t0 : Expr} {gens : List Comprehension} {ifs0 : List Expr} {scope : Scope} {pos ip : Pos} {d : Nat} {act : Sem Fin → Sem Fin} {it acc : Value} {env : Env}
/-- the text of one clause's turn; act is what is done behind the tests -/
def turnOf (E t0 : Expr) (ifs0 : List Expr) (ip : Pos) (act : Sem Fin → Sem Fin) (d : Nat) (it acc : Value) (env : Env) : Sem Fin := do
  standAt ip
  match ← pyNext it with
  | none => pure (.done .next)
  | some v =>
    letOwnedTupleGo t0 it v
    assign t0 env v
    let mut ok := true
    for c in ifs0 do
      if ok then ok ← isTrue c env (eval c env)
    if ok then act (again (.compLoop E d it acc env)) else again (.compLoop E d it acc env)
/-- what an act does, whatever follows -/
def ActOk (M : Model) (A : Around) (act : Sem Fin → Sem Fin) (Post : Shared → Prop) (s : Shared) : Prop := ∀ (k : Sem Fin) (Q : Fin → Shared → Prop) (E : Value → Shared → Prop), (∀ s', Post s' → wpAny M A k Q E s') → wpAny M A (act k) Q E s
theorem clause_loop (hT : compTurn (.ListComp elt gens scope pos) d it acc env = turnOf (.ListComp elt gens scope pos) t0 ifs0 ip act d it acc env) (I : Nat → Shared → Prop)
    (turn : ∀ n s, I n s → wpAny (model prog w) A (pyNext it) (fun r s1 => match r with
      | none => R (.ok .next) s1
      | some v => wpAny (model prog w) A (letOwnedTupleGo t0 it v) (fun _ s2 => wpAny (model prog w) A (assign t0 env v) (fun _ s3 =>
          wpAny (model prog w) A (forIn ifs0 true fun c r => if r = true then do let ok ← isTrue c env (eval c env); pure (ForInStep.yield ok) else pure (ForInStep.yield r)) (fun b s4 =>
            if b = true then ActOk (model prog w) A act (fun s5 => ∃ m, m < n ∧ I m s5) s4 else ∃ m, m < n ∧ I m s4) (fun _ _ => False) s3) (fun _ _ => False) s2) (fun _ _ => False) s1) (fun _ _ => False) s)
    (n : Nat) {s : Shared} (h : I n s) : codeAny (model prog w) A (.compLoop (.ListComp elt gens scope pos) d it acc env) R s := by
  refine codeAny_loop rfl I (fun n s hI => ?_) n h
  show wpAny _ A ((compTurn (.ListComp elt gens scope pos) d it acc env).onRaise (fun x => do noteFrame x env; theTreesLotGoes x)) _ _ s
  refine wpAny_noted ?_
  rw [hT]
  unfold turnOf
  have no : ∀ {P : Value → Shared → Prop} (e : Value) (z : Shared), (fun (_ : Value) (_ : Shared) => False) e z → P e z := fun _ _ z => z.elim
  refine wpAny_bind (wpAny_standAt (wpAny_bind (wpAny_mono (turn n s hI) (fun r s1 h1 => ?_) no)))
  cases r with
  | none => exact wpAny_pure h1
  | some v =>
    refine wpAny_bind (wpAny_mono h1 (fun _ s2 h2 => wpAny_bind (wpAny_mono h2 (fun _ s3 h3 => wpAny_bind (wpAny_mono h3 (fun b s4 h4 => ?_) no)) no)) no)
    cases b with
    | false => exact wpAny_pure ⟨rfl, h4⟩
    | true =>
      have h4 : ActOk (model prog w) A act (fun s5 => ∃ m, m < n ∧ I m s5) s4 := h4
      exact h4 _ _ _ fun s5 h5 => wpAny_pure ⟨rfl, h5⟩
end
section
variable {prog : Program} {w : World} {A : Around} {R : Result → Shared → Prop} {s : Shared} {elt t0 i0 : Expr} {gens : List Comprehension} {ifs0 : List Expr} {scope : Scope} {pos : Pos} {d : Nat} {it acc : Value} {env : Env}
theorem clause_start (hg : gens[d]? = some ⟨t0, i0, ifs0, 0⟩) (h0 : codeAny (model prog w) A (.compLoop (.ListComp elt gens scope pos) d it acc env) R s)
    (h : wpAny (model prog w) A (pyIter it) (fun it' s' => codeAny (model prog w) A (.compLoop (.ListComp elt gens scope pos) d it' acc env) R s') (fun _ _ => False) s) :
    codeAny (model prog w) A (.compStart (.ListComp elt gens scope pos) d it acc env) R s := by
  have no : ∀ {P : Value → Shared → Prop} (e : Value) (z : Shared), (fun (_ : Value) (_ : Shared) => False) e z → P e z := fun _ _ z => z.elim
  refine codeAny_of_tree ?_
  show wpAny _ _ ((compStart (.ListComp elt gens scope pos) d it acc env).onRaise (fun x => do noteFrame x env; standAt theWindowsPlace)) _ _ s
  refine wpAny_notedAt ?_
  unfold compStart
  have e : (clausesOf (.ListComp elt gens scope pos))[d]? = some ⟨t0, i0, ifs0, 0⟩ := hg
  rw [e]
  show wpAny _ _ (ask >>= _) _ _ s
  refine wpAny_bind (wpAny_askSetting (wpAny_ite ?_))
  split
  · first
      | exact wpAny_bind (wpAny_pure (wpAny_pure (And.intro rfl h0)))
      | exact wpAny_pure (And.intro rfl h0)
  · refine wpAny_bind (wpAny_rule ?_)
    show wpAny _ _ (standAt i0.pos >>= _) _ _ s
    exact wpAny_bind (wpAny_standAt (wpAny_bind (wpAny_mono h (fun it' s' h' => wpAny_pure (And.intro rfl h')) no)))
/-- what stands behind the tests where another clause follows -/
def nextOf (E i0 : Expr) (d : Nat) (acc : Value) (env : Env) (k : Sem Fin) : Sem Fin := do
  let x ← eval i0 env
  standAt i0.pos
  let x ← foldedSetIterable i0 env x
  let _ ← runOwn (.compStart E d (← holding [x] (pyIter x)) acc env) env
  k
/-- and where none does -/
def lastOf (elt : Expr) (acc : Value) (env : Env) (k : Sem Fin) : Sem Fin := do
  (do let _ ← call (.builtin "list.append") [acc, ← eval elt env])
  k
end
section
variable {Y : Cx}
abbrev Bd := St → Hp → (Hp → Prop) → Prop
def lvl (wi : TI) (g : TG) (tt : TT) (vs : List Nat) (bd : Bd) : Bd := fun σ H Nx => wi σ H fun J H1 => ∃ W : Nat → Nat → Hp → Prop, (∃ m, W 0 m H1) ∧ ∀ i m H, W i m H →
  (J.stop i H ∧ Nx H) ∨ (J.go i H ∧ ∃ Nz : Hp → Prop, (∀ H', Nz H' → ∃ m', m' < m ∧ W (i + 1) m' H') ∧ ∀ x H', J.yld i H x H' → g x (wipe σ vs) H' fun σ2 H2 => wipe σ2 vs = wipe σ vs ∧ tt σ2 H2 fun b H3 => if b = true then bd σ2 H3 Nz else Nz H3)
def bdApp (te : TE) (D : Addr) : Bd := fun σ H Nx => te σ H fun y H1 => ∃ acc, H1 D = some (.lst acc) ∧ acc.length < sizeLine ∧ Nx (upd H1 D (.lst (acc ++ [y])))
/-- what an act does in a block; vi: the slots that it may have changed -/
def Acts (Y : Cx) (act : Sem Fin → Sem Fin) (vi : List Nat) (bd : Bd) : Prop := ∀ (pins : List (Addr × Obj)) (s : Shared) (σ : St) (H : Hp) (Nx : Hp → Prop) (Post : Shared → Prop), Inv Y pins σ H s → bd σ H Nx → (∀ s' H', Inv Y pins (wipe σ vi) H' s' → Nx H' → Post s') → ActOk (model Y.prog Y.w) Y.A act Post s
theorem acts_app {elt : Expr} {te : TE} {D : Addr} (hx : Y.xe = fun _ _ => False) (he : PE Y elt te) : Acts Y (lastOf elt (.ref D) Y.env) [] (bdApp te D) := fun pins s σ H Nx Post I h hP k Q E hk => by
  have he := he.run pins s σ H _ I h
  rw [hx] at he
  unfold lastOf
  refine wpAny_bind (wpAny_bind (thnF he fun z s1 ⟨yv, H1, I1, r1, acc, hD, hz, nx⟩ => wpAny_bind ?_))
  exact app_ok (X := Y) I1 hD hz r1 fun s2 I2 => wpAny_pure (hk s2 (hP s2 _ I2 nx))
theorem acts_lvl {elt t i : Expr} {gens : List Comprehension} {ifs : List Expr} {scope : Scope} {pos : Pos} {d : Nat} {act : Sem Fin → Sem Fin} {D : Addr} {wi : TI} {g : TG} {tt : TT} {vs vi : List Nat} {bd : Bd} (hc : Y.calm = true) (hx : Y.xe = fun _ _ => False)
    (hi : PI Y t i wi) (pg : PG Y t g) (pt : PTs Y ifs tt) (hs : ∀ x, foldedSetIterable i Y.env x = pure x) (hvi : ∀ j ∈ vi, j ∈ vs) (hgn : gens[d]? = some ⟨t, i, ifs, 0⟩)
    (hT : ∀ it, compTurn (.ListComp elt gens scope pos) d it (.ref D) Y.env = turnOf (.ListComp elt gens scope pos) t ifs i.pos act d it (.ref D) Y.env) (ha : Acts Y act vi bd) :
    Acts Y (nextOf (.ListComp elt gens scope pos) i d (.ref D) Y.env) vs (lvl wi g tt vs bd) := fun pins s σ H Nx Post I h hP k Q E hk => by
  have no : ∀ {P : Value → Shared → Prop} (e : Value) (z : Shared), (fun (_ : Value) (_ : Shared) => False) e z → P e z := fun _ _ z => z.elim
  have h0 := hi.run pins s σ H _ I h
  rw [hx] at h0
  unfold nextOf
  refine wpAny_bind (thnF h0 fun x s1 h1 => wpAny_bind (wpAny_standAt (wpAny_bind (wpAny_of_eq (hs x) (wpAny_bind (wpAny_holding (thnF h1 fun itv s2 h2 => ?_)))))))
  obtain ⟨it, fp, tn, J, H2, e, I2, T, st2, f2, W, ⟨m0, w0⟩, turn⟩ := h2
  subst e
  refine wpAny_bind (wpAny_runOwn ?_)
  rw [Around.mark_none]
  have stat : ∀ {H' : Hp}, (∀ b ∈ fp, H' b = none) → ∀ b ∈ fp, FpOk Y pins H' b := fun hn b hb => ⟨hn b hb, (f2 b hb).2⟩
  have loop : codeAny (model Y.prog Y.w) Y.A (.compLoop (.ListComp elt gens scope pos) d (.ref it) (.ref D) Y.env) (fun r s' => match r with
      | .ok _ => Post s'
      | .error _ => False) s2 := by
    refine clause_loop (hT (.ref it)) (fun k s' => ∃ i H', Inv Y pins (wipe σ vs) H' s' ∧ tn i s'.heap ∧ (∀ b ∈ fp, H' b = none) ∧ W i k H') ?_ m0 ⟨0, H2, I2.weak (wipe_length _ _) (fun j v e => (wipe_some e).1), st2, fun b hb => (f2 b hb).1, w0⟩
    rintro k3 s3 ⟨i3, H3, I3, st3, n3, w3⟩
    rcases turn i3 k3 H3 w3 with ⟨stop, nx⟩ | ⟨go, Nz, hNz, step⟩
    · refine thnF (T.done Y rfl rfl rfl hc i3 _ s3 (wipe σ vs) H3 (fun _ _ => False) I3 (stat n3) st3 stop) fun r s4 ⟨hr, I4⟩ => ?_
      subst hr
      exact hP s4 H3 I4 nx
    · refine thnF (T.item Y rfl rfl rfl hc i3 _ s3 (wipe σ vs) H3 (fun _ _ => False) I3 (stat n3) st3 go) fun r s4 ⟨u, hr, h4⟩ => ?_
      subst hr
      refine thnF h4 fun _ s5 ⟨x5, H5, I5, r5, y5, st5, n5⟩ => ?_
      have q1 := pg.run _ s5 (wipe σ vs) H5 x5 u _ (I5.pinned (stat n5) (T.obj _ _ st5)) r5 (step x5 H5 y5)
      rw [hx] at q1
      refine thnF q1 fun _ s6 ⟨σ6, H6, I6, hw6, q6⟩ => ?_
      have q2 := pt.run _ s6 σ6 H6 _ I6 q6
      rw [hx] at q2
      refine thnF q2 fun b s7 ⟨H7, I7, q7⟩ => ?_
      have fin : ∀ {σ' : St} {s' : Shared} {H' : Hp}, Inv Y (pins ++ pinsAt fp s5.heap) σ' H' s' → (wipe σ vs).length = σ'.length → (∀ (j : Nat) v, (wipe σ vs)[j]? = some (some v) → σ'[j]? = some (some v)) → Nz H' →
          ∃ m, m < k3 ∧ ∃ i H', Inv Y pins (wipe σ vs) H' s' ∧ tn i s'.heap ∧ (∀ b ∈ fp, H' b = none) ∧ W i m H' := fun {σ' s' H'} I' hl hk nx => by
        obtain ⟨m', hm, w'⟩ := hNz H' nx
        have pin' : ∀ b ∈ fp, ∀ o, s5.heap.get? b = some o → s'.heap.get? b = some o ∧ H' b = none := fun b hb o e =>
          let z := I'.pin (b, o) (List.mem_append_right _ (List.mem_append_right _ (mem_pinsAt hb e)))
          ⟨z.1, z.2.1⟩
        refine ⟨m', hm, i3 + 1, H', I'.unpinned.weak hl hk, T.keep _ _ _ st5 fun b hb o e => (pin' b hb o e).1, fun b hb => ?_, w'⟩
        obtain ⟨o, e, _⟩ := T.obj _ _ st5 b hb
        exact (pin' b hb o e).2
      cases b with
      | false =>
        simp only [Bool.false_eq_true, if_false] at q7 ⊢
        exact fin I7 (by rw [← hw6, wipe_length]) (fun j v e => by rw [← hw6] at e; exact (wipe_some e).1) q7
      | true =>
        simp only [if_true] at q7 ⊢
        refine ha _ s7 σ6 H7 Nz (fun s8 => ∃ m, m < k3 ∧ ∃ i H', Inv Y pins (wipe σ vs) H' s8 ∧ tn i s8.heap ∧ (∀ b ∈ fp, H' b = none) ∧ W i m H') I7 q7 fun s8 H8 I8 nz => fin I8 (by rw [← hw6, wipe_length, wipe_length]) (fun j v e => ?_) nz
        rw [← hw6] at e
        obtain ⟨e1, e2⟩ := wipe_some e
        rw [wipe_out fun z => e2 (hvi j z)]
        exact e1
  refine codeAny_mono (clause_start hgn loop (T.self Y.A 0 _ _ _ st2 loop)) fun r s' hr => ?_
  cases r with
  | ok f => exact hk s' hr
  | error e => exact hr.elim
end
section
variable {X : Cx}
def tLcB (wi : TI) (g : TG) (tt : TT) (bd : Addr → Bd) (vs : List Nat) : TE := fun σ H Q => wi σ H fun J H1 => ∀ D, H1 D = none → ∃ W : Nat → Nat → Hp → Prop, (∃ m, W 0 m (upd H1 D (.lst []))) ∧ ∀ i m H, W i m H →
  (J.stop i H ∧ Q (.ref D) H) ∨ (J.go i H ∧ ∃ Nx : Hp → Prop, (∀ H', Nx H' → ∃ m', m' < m ∧ W (i + 1) m' H') ∧ ∀ x H', J.yld i H x H' → g x (wipe σ vs) H' fun σ2 H2 => wipe σ2 vs = wipe σ vs ∧ tt σ2 H2 fun b H3 => if b = true then bd D σ2 H3 Nx else Nx H3)
theorem lcB_core {pins : List (Addr × Obj)} {s : Shared} {σ : St} {H : Hp} {Q : VK} {pos' : Pos} {use : Option (Value → Sem Unit)} {Qf : Value → Shared → Prop} {elt tg iter : Expr} {rest : List Comprehension} {ifs : List Expr} {scope : Scope} {own : List (Str × Nat)} {pos : Pos} {wi : TI} {g : TG} {tt : TT} {bd : Addr → Bd} {vi : List Nat} {act : Value → Env → Sem Fin → Sem Fin} (hc : X.calm = true) (hN : X.N.Nodup) (hi : PI X tg iter wi) (ok : BlkOk X.N X.env.scope scope own)
    (hv : ∀ i ∈ vi, i ∈ own.map (·.2))
    (hg : ∀ (s : Shared) (H : Hp) (C : Addr) (cl : List (Str × Addr)) (fp : List Addr), PG (X.blk s H scope (compEnvC scope cl C X.env) fp) tg g) (ht : ∀ (s : Shared) (H : Hp) (C : Addr) (cl : List (Str × Addr)) (fp : List Addr), PTs (X.blk s H scope (compEnvC scope cl C X.env) fp) ifs tt)
    (hT : ∀ it acc env, compTurn (.ListComp elt (⟨tg, iter, ifs, 0⟩ :: rest) scope pos) 0 it acc env = turnOf (.ListComp elt (⟨tg, iter, ifs, 0⟩ :: rest) scope pos) tg ifs iter.pos (act acc env) 0 it acc env)
    (ha : ∀ (s : Shared) (H : Hp) (C : Addr) (cl : List (Str × Addr)) (fp : List Addr) (D : Addr), Acts (X.blk s H scope (compEnvC scope cl C X.env) fp) (act (.ref D) (compEnvC scope cl C X.env)) vi (bd D)) (hs : ∀ x, foldedSetIterable iter X.env x = pure x) (I : Inv X pins σ H s)
    (h : tLcB wi g tt bd (own.map (·.2)) σ H Q) (hRR : ∀ D C s' m H', Inv X pins σ H' s' → Q (.ref D) H' → s'.heap.Ns C m → FpOk X pins H' C → compPost (model X.prog X.w) X.A X.xe use Qf (.ref D) C (.ok .next) s') :
    wpAny (model X.prog X.w) X.A (comprehension (.ListComp elt (⟨tg, iter, ifs, 0⟩ :: rest) scope pos) scope X.env pos' (newList []) false (eval iter X.env) use) Qf X.xe s := by
  have hfree : ∀ y ∈ scope.names, y.2 = .free → ∃ c, X.env.cells.lookup y.1 = some c := fun y hy e => (ok.free y hy e).elim (fun k => I.ok.has _ (.inl k)) fun k => I.ok.has _ (.inr k)
  refine wpAny_comprehension_free (use := use) rfl hs (closure_ok hfree) ok.kind (fun y hy e => by rw [ok.uniq y hy, e]) (thn (hi.run pins s σ H _ I h) fun xv s1 hx => thn hx fun itv s2 h2 => ?_)
  obtain ⟨it, fp, tn, J, H2, e, I2, T, st2, f2, q⟩ := h2
  subst e
  refine wpAny_newObj_type (newEnv_comp ?_) (Nat.zero_le _)
  generalize hD : s2.heap.objs.size = D
  obtain ⟨W, ⟨m0, w0⟩, turn⟩ := q D (I2.hok.fresh (Nat.le_of_eq hD))
  generalize hs3 : ({ s2 with heap := s2.heap.push { cls := .type "list", data := .seq ([] : List Value).toArray } } : Shared) = s3
  have h3 : s3.heap = s2.heap.push { cls := .type "list", data := .seq ([] : List Value).toArray } := by rw [← hs3]
  have I3 : Inv X pins σ (upd H2 D (.lst [])) s3 := by
    rw [← hs3]
    refine I2.laid (t' := s2.toks) (fun b o e => Heap.get?_push_of_some _ e) (Nat.le_of_eq hD) ⟨Nat.zero_le _, [], 0, .nil, ?_⟩
    rw [← hD]
    exact Heap.get?_push_size _ rfl
  have f3 : ∀ b ∈ fp, FpOk X pins (upd H2 D (.lst [])) b ∧ b < s3.heap.objs.size := fun b hb => by
    obtain ⟨oo, eo, _⟩ := T.obj _ _ st2 b hb
    have hlt := Heap.lt_size eo
    refine ⟨⟨?_, (f2 b hb).2⟩, by rw [h3, Heap.size_push]; exact Nat.lt_succ_of_lt hlt⟩
    rw [upd_ne (by rw [← hD]; exact Nat.ne_of_lt hlt)]
    exact (f2 b hb).1
  have st3 : tn 0 s3.heap := T.keep _ _ _ st2 fun b _ o e => by rw [h3]; exact Heap.get?_push_of_some _ e
  have I4 := block_start I3 ok hN f3
  generalize hcl : cellsFrom (s3.heap.objs.size + 1) scope.names (cloFrom X.env.cells scope.names []) = cl at I4 ⊢
  have pg := hg s3 (upd H2 D (.lst [])) s3.heap.objs.size cl fp
  have pt := ht s3 (upd H2 D (.lst [])) s3.heap.objs.size cl fp
  have pa := ha s3 (upd H2 D (.lst [])) s3.heap.objs.size cl fp D
  show codeAny _ _ (.compStart (.ListComp elt (⟨tg, iter, ifs, 0⟩ :: rest) scope pos) 0 (.ref it) (.ref D) (compEnvC scope cl s3.heap.objs.size X.env)) (compPost (model X.prog X.w) X.A X.xe use Qf (.ref D) s3.heap.objs.size) { s3 with heap := pushCells (s3.heap.push { cls := .type "dict", data := .dict #[] }) scope.names }
  have nfp : ∀ b ∈ fp, (upd H2 D (.lst [])) b = none := fun b hb => (f3 b hb).1.1
  generalize hce : compEnvC scope cl s3.heap.objs.size X.env = ce at I4 pg pt pa ⊢
  have cL : ce.locals = s3.heap.objs.size := by subst hce; rfl
  generalize hH3 : upd H2 D (.lst []) = H3 at I3 I4 pg pt pa w0 nfp f3
  generalize hs4 : ({ s3 with heap := pushCells (s3.heap.push { cls := .type "dict", data := .dict #[] }) scope.names } : Shared) = s4 at I4 ⊢
  have st4 : tn 0 s4.heap := T.keep _ _ _ st3 fun b _ o e => by rw [← hs4]; exact pushCells_keeps _ _ _ _ (Heap.get?_push_of_some _ e)
  have stat : ∀ {σ' : St} {H' : Hp} {s' : Shared}, Inv (X.blk s3 H3 scope ce fp) [] σ' H' s' → (∀ b ∈ fp, H' b = none) → ∀ b ∈ fp, FpOk (X.blk s3 H3 scope ce fp) [] H' b := fun I' hn b hb =>
    ⟨hn b hb, (I'.ok.exf b hb).1, I'.ok.exfs b hb, .inl hb, fun x c e => (I'.ok.exf b hb).2 x c e, fun p hp => absurd (show p ∈ ([] : List (Addr × Obj)) ++ [] from hp) (by simp)⟩
  have loop : codeAny (model X.prog X.w) X.A (.compLoop (.ListComp elt (⟨tg, iter, ifs, 0⟩ :: rest) scope pos) 0 (.ref it) (.ref D) ce) (compPost (model X.prog X.w) X.A X.xe use Qf (.ref D) s3.heap.objs.size) s4 := by
    refine clause_loop (hT (.ref it) (.ref D) ce) (fun n s' => ∃ i H', Inv (X.blk s3 H3 scope ce fp) [] (wipe σ (own.map (·.2))) H' s' ∧ tn i s'.heap ∧ (∀ b ∈ fp, H' b = none) ∧ W i n H') ?_ m0 ⟨0, H3, I4, st4, nfp, w0⟩
    rintro n s5 ⟨i, H5, I5, st5, n5, w5⟩
    rcases turn i n H5 w5 with ⟨stop, qq⟩ | ⟨go, Nx, hNx, step⟩
    · refine thnF (T.done (X.blk s3 H3 scope ce fp) rfl rfl rfl hc i [] s5 _ H5 (fun _ _ => False) I5 (stat I5 n5) st5 stop) fun r s6 ⟨hr, I6⟩ => ?_
      subst hr
      have I7 : Inv X pins σ H5 s6 := I3.call' (ch := fp) I6.os I6.base I6.hok I6.bare fun b hb => ⟨(f3 b hb).1.2.2.2.1, (f3 b hb).1.2.1, (f3 b hb).1.2.2.2.2.1, (f3 b hb).1.2.2.2.2.2⟩
      have nC : H5 s3.heap.objs.size = none := by rw [← cL]; exact I6.free
      obtain ⟨m, hn, _⟩ := I6.loc
      have hn : s6.heap.Ns ce.locals m := hn
      rw [cL] at hn
      exact hRR D s3.heap.objs.size s6 m H5 I7 qq hn (I3.fpOk (Nat.le_refl _) nC)
    · refine thnF (T.item (X.blk s3 H3 scope ce fp) rfl rfl rfl hc i [] s5 _ H5 (fun _ _ => False) I5 (stat I5 n5) st5 go) fun r s6 ⟨u, hr, h6⟩ => ?_
      subst hr
      refine thnF h6 fun _ s7 ⟨x, H7, I7, r7, y7, st7, n7⟩ => ?_
      refine thnF (pg.run _ s7 _ H7 x u _ (I7.pinned (stat I7 n7) (T.obj _ _ st7)) r7 (step x H7 y7)) fun _ s8 ⟨σ8, H8, I8, hw8, q8⟩ => ?_
      refine thnF (pt.run _ s8 σ8 H8 _ I8 q8) fun b s9 ⟨H9, I9, q9⟩ => ?_
      have fin : ∀ {σ' : St} {s' : Shared} {H' : Hp}, Inv (X.blk s3 H3 scope ce fp) ([] ++ pinsAt fp s7.heap) σ' H' s' → (wipe σ (own.map (·.2))).length = σ'.length → (∀ (j : Nat) v, (wipe σ (own.map (·.2)))[j]? = some (some v) → σ'[j]? = some (some v)) → Nx H' →
          ∃ m, m < n ∧ ∃ i H', Inv (X.blk s3 H3 scope ce fp) [] (wipe σ (own.map (·.2))) H' s' ∧ tn i s'.heap ∧ (∀ b ∈ fp, H' b = none) ∧ W i m H' := fun {σ' s' H'} I' hl hk nx => by
        obtain ⟨m', hm, w'⟩ := hNx H' nx
        have pin' : ∀ b ∈ fp, ∀ o, s7.heap.get? b = some o → s'.heap.get? b = some o ∧ H' b = none := fun b hb o e =>
          let z := I'.pin (b, o) (List.mem_append_right _ (List.mem_append_right _ (mem_pinsAt hb e)))
          ⟨z.1, z.2.1⟩
        refine ⟨m', hm, i + 1, H', (I'.unpinned (pins := [])).weak hl hk, T.keep _ _ _ st7 fun b hb o e => (pin' b hb o e).1, fun b hb => ?_, w'⟩
        obtain ⟨o, e, _⟩ := T.obj _ _ st7 b hb
        exact (pin' b hb o e).2
      cases b with
      | false =>
        simp only [Bool.false_eq_true, if_false] at q9 ⊢
        exact fin I9 (by rw [← hw8, wipe_length]) (fun j v e => by rw [← hw8] at e; exact (wipe_some e).1) q9
      | true =>
        simp only [if_true] at q9 ⊢
        refine pa _ s9 σ8 H9 Nx (fun s' => ∃ m, m < n ∧ ∃ i H', Inv (X.blk s3 H3 scope ce fp) [] (wipe σ (own.map (·.2))) H' s' ∧ tn i s'.heap ∧ (∀ b ∈ fp, H' b = none) ∧ W i m H') I9 q9 fun s10 H10 I10 nx => fin I10 (by rw [← hw8, wipe_length, wipe_length]) (fun j v e => ?_) nx
        rw [← hw8] at e
        obtain ⟨e1, e2⟩ := wipe_some e
        rw [wipe_out fun z => e2 (hv j z)]
        exact e1
  exact codeAny_compStart_list loop (T.self X.A 0 _ _ _ st4 loop)
/-- three clauses; vs: all names of the block, vs1: those of the second and the third, vs2: those of the third -/
def tLc3 (wi : TI) (g : TG) (tt : TT) (wi1 : TI) (g1 : TG) (tt1 : TT) (wi2 : TI) (g2 : TG) (tt2 : TT) (te : TE) (vs vs1 vs2 : List Nat) : TE := tLcB wi g tt (fun D => lvl wi1 g1 tt1 vs1 (lvl wi2 g2 tt2 vs2 (bdApp te D))) vs
theorem pe_lc3 {elt tg iter tg1 iter1 tg2 iter2 : Expr} {ifs ifs1 ifs2 : List Expr} {scope : Scope} {own : List (Str × Nat)} {vs1 vs2 : List Nat} {pos : Pos} {wi wi1 wi2 : TI} {g g1 g2 : TG} {tt tt1 tt2 : TT} {te : TE} (hc : X.calm = true) (hN : X.N.Nodup) (hi : PI X tg iter wi) (ok : BlkOk X.N X.env.scope scope own)
    (hv : ∀ i ∈ vs1, i ∈ own.map (·.2)) (hv2 : ∀ i ∈ vs2, i ∈ vs1)
    (hg : ∀ (s : Shared) (H : Hp) (C : Addr) (cl : List (Str × Addr)) (fp : List Addr), PG (X.blk s H scope (compEnvC scope cl C X.env) fp) tg g) (ht : ∀ (s : Shared) (H : Hp) (C : Addr) (cl : List (Str × Addr)) (fp : List Addr), PTs (X.blk s H scope (compEnvC scope cl C X.env) fp) ifs tt)
    (hi1 : ∀ (s : Shared) (H : Hp) (C : Addr) (cl : List (Str × Addr)) (fp : List Addr), PI (X.blk s H scope (compEnvC scope cl C X.env) fp) tg1 iter1 wi1)
    (hg1 : ∀ (s : Shared) (H : Hp) (C : Addr) (cl : List (Str × Addr)) (fp : List Addr), PG (X.blk s H scope (compEnvC scope cl C X.env) fp) tg1 g1) (ht1 : ∀ (s : Shared) (H : Hp) (C : Addr) (cl : List (Str × Addr)) (fp : List Addr), PTs (X.blk s H scope (compEnvC scope cl C X.env) fp) ifs1 tt1)
    (hi2 : ∀ (s : Shared) (H : Hp) (C : Addr) (cl : List (Str × Addr)) (fp : List Addr), PI (X.blk s H scope (compEnvC scope cl C X.env) fp) tg2 iter2 wi2)
    (hg2 : ∀ (s : Shared) (H : Hp) (C : Addr) (cl : List (Str × Addr)) (fp : List Addr), PG (X.blk s H scope (compEnvC scope cl C X.env) fp) tg2 g2) (ht2 : ∀ (s : Shared) (H : Hp) (C : Addr) (cl : List (Str × Addr)) (fp : List Addr), PTs (X.blk s H scope (compEnvC scope cl C X.env) fp) ifs2 tt2)
    (he : ∀ (s : Shared) (H : Hp) (C : Addr) (cl : List (Str × Addr)) (fp : List Addr), PE (X.blk s H scope (compEnvC scope cl C X.env) fp) elt te) (hs : ∀ x, foldedSetIterable iter X.env x = pure x := by intro _; rfl) (hs1 : ∀ env x, foldedSetIterable iter1 env x = pure x := by intro _ _; rfl) (hs2 : ∀ env x, foldedSetIterable iter2 env x = pure x := by intro _ _; rfl) :
    PE X (.ListComp elt [⟨tg, iter, ifs, 0⟩, ⟨tg1, iter1, ifs1, 0⟩, ⟨tg2, iter2, ifs2, 0⟩] scope pos) (tLc3 wi g tt wi1 g1 tt1 wi2 g2 tt2 te (own.map (·.2)) vs1 vs2) := by
  refine ⟨fun pins s σ H Q I h => ?_⟩
  rw [eval_ListComp]
  refine lcB_core (act := fun acc env => nextOf (.ListComp elt [⟨tg, iter, ifs, 0⟩, ⟨tg1, iter1, ifs1, 0⟩, ⟨tg2, iter2, ifs2, 0⟩] scope pos) iter1 1 acc env) hc hN hi ok hv hg ht (fun _ _ _ => rfl) (fun s H C cl fp D => ?_) hs I h fun D C s' m H' I' q hn f => ⟨m, hn, fun h'' sb => ?_⟩
  · refine acts_lvl (act := nextOf (.ListComp elt [⟨tg, iter, ifs, 0⟩, ⟨tg1, iter1, ifs1, 0⟩, ⟨tg2, iter2, ifs2, 0⟩] scope pos) iter2 2 (.ref D) (compEnvC scope cl C X.env)) hc rfl (hi1 s H C cl fp) (hg1 s H C cl fp) (ht1 s H C cl fp) (hs1 _) hv2 rfl (fun _ => rfl) ?_
    exact acts_lvl (act := lastOf elt (.ref D) (compEnvC scope cl C X.env)) hc rfl (hi2 s H C cl fp) (hg2 s H C cl fp) (ht2 s H C cl fp) (hs2 _) (fun j hj => absurd hj List.not_mem_nil) rfl (fun _ => rfl) (acts_app rfl (he s H C cl fp))
  · obtain ⟨f0, f1, f2, f3, f4, f5⟩ := f
    exact ⟨.ref D, H', I'.turned (t' := s'.toks) (fun b o hb e => (sb.2 b hb).trans e) f0 f1 f3 f4 f5, rfl, q⟩
end
end L2
namespace DL
open PySem PySem.Spec PyProof.Rows L2 Evl
abbrev BdD := DS → (List D → Prop) → List D → Prop
def lcG (g : DG) (tt : DT) (bd : BdD) (δ : DS) (K : List D → Prop) : List D → List D → Prop
  | [], acc => K acc
  | d :: ds, acc => g d δ fun δ' => tt δ' fun b => if b = true then bd δ' (fun a => lcG g tt bd δ K ds a) acc else lcG g tt bd δ K ds acc
def lvD (ri : DA) (g : DG) (tt : DT) (vs : List Nat) (bd : BdD) : BdD := fun δ K acc => ri δ fun es => lcG g tt bd (wipeD δ vs) K es acc
def apD (te : DE) : BdD := fun δ K acc => te δ fun y => acc.length < sizeLine ∧ K (acc ++ [y])
def fLc3 (ri : DA) (g : DG) (tt : DT) (ri1 : DA) (g1 : DG) (tt1 : DT) (ri2 : DA) (g2 : DG) (tt2 : DT) (te : DE) (vs vs1 vs2 : List Nat) : DA := fun δ Q => ri δ fun ds => lcG g tt (lvD ri1 g1 tt1 vs1 (lvD ri2 g2 tt2 vs2 (apD te))) (wipeD δ vs) Q ds []
theorem z_lc3 {ri ri1 ri2 : DA} {g g1 g2 : DG} {tt tt1 tt2 : DT} {te : DE} {vs vs1 vs2 : List Nat} {δ : DS} {Q : List D → Prop} : fLc3 ri g tt ri1 g1 tt1 ri2 g2 tt2 te vs vs1 vs2 δ Q = ri δ fun ds => lcG g tt (lvD ri1 g1 tt1 vs1 (lvD ri2 g2 tt2 vs2 (apD te))) (wipeD δ vs) Q ds [] := propext Iff.rfl
section
variable {K : PySem.W.Frag} {B : Bx} {p : Addr}
/-- behind a body: all stands, the new list at p has grown -/
def PaE (K : PySem.W.Frag) (B : Bx) (p : Addr) (G2 H2 H0 G H : Hp) (cont : List D → Prop) (H1 : Hp) : Prop := ∃ G1 acc accD, Ex G G1 ∧ Gr K B G2 H2 G1 H1 ∧ (∀ σ δ, StOk K B H0 G H σ δ → StOk K B H0 G1 H1 σ δ) ∧ G1 p = none ∧ H1 p = some (.lst acc) ∧ Dats K B G1 acc accD ∧ cont accD
def LB (K : PySem.W.Frag) (B : Bx) (p : Addr) (bd : Bd) (bdD : BdD) : Prop := ∀ {G2 H2 H0 G H : Hp} {σ : L2.St} {δ : DS} {acc : List V} {accD : List D} {cont : List D → Prop} {Nx : Hp → Prop}, Gr K B G2 H2 G H → H2 p = none → G2 p = none → StOk K B H0 G H σ δ → H0 p ≠ none → B.nb p → G p = none → H p = some (.lst acc) → Dats K B G acc accD → bdD δ cont accD →
  (∀ H1, PaE K B p G2 H2 H0 G H cont H1 → Nx H1) → bd σ H Nx
theorem lb_app {te : DE} : LB K B p (bdApp (liftE K B te) p) (apD te) := fun {G2 H2 H0 G H σ δ acc accD cont Nx} gr hp2 gp2 st p0 nb gp hp ha q hN => by
  refine ⟨H0, G, δ, _, gr.j, st, q, fun y u G1 H1 q1 g1 h1 => ?_⟩
  have hpn : Mu H p := ⟨_, hp, nl rfl⟩
  have gp1 : G1 p = none := by rw [g1.old p hpn]; exact gp
  have hl := ha.len
  refine ⟨acc, g1.keep p _ nb hp, by rw [hl]; exact q1.1, hN _ ⟨G1, _, _, g1.ex, (gr.trans g1).own hp2 gp1 nb, fun σ δ s => (s.gr g1).past p0, gp1, upd_same, (ha.mono g1.ex).append (.cons h1 .nil), q1.2⟩⟩
theorem lb_lvl {ri : DA} {g : DG} {is vs : List Nat} {tt : DT} {bd : Bd} {bdD : BdD} (hv : ∀ i ∈ is, i ∈ vs) (hb : LB K B p bd bdD) : LB K B p (lvl (liftI K B ri) (liftG K B is g) (liftT K B tt) vs bd) (lvD ri g tt vs bdD) := fun {G2 H2 H0 G H σ δ acc accD cont Nx} gr hp2 gp2 st p0 nb gp hp ha q hN => by
  refine ⟨H0, G, δ, _, gr.j, st, q, fun es J1 G5 H5 q5 g5 it1 => ?_⟩
  have hpn : Mu H p := ⟨_, hp, nl rfl⟩
  refine ⟨fun i m H' => i + m = es.length ∧ ∃ G' acc accD, Ex G5 G' ∧ Gr K B G2 H2 G' H' ∧ (∀ σ δ, StOk K B H0 G H σ δ → StOk K B H0 G' H' σ δ) ∧ G' p = none ∧ H' p = some (.lst acc) ∧ Dats K B G' acc accD ∧ lcG g tt bdD (wipeD δ vs) cont (es.drop i) accD,
    ⟨es.length, by omega, G5, acc, accD, Ex.refl _, gr.trans g5, fun σ δ s => s.gr g5, by rw [g5.old p hpn]; exact gp, g5.keep p _ nb hp, ha.mono g5.ex, q5⟩, fun i m H6 hw => ?_⟩
  obtain ⟨em, G6, acc1, accD1, ex6, gr6, tr6, gp6, hp6, ha6, hf6⟩ := hw
  by_cases hlt : i < es.length
  · refine .inr ⟨it1.go i G6 H6 ex6 gr6.j hlt, fun H1 => ∃ G' acc1 accD1, Ex G5 G' ∧ Gr K B G2 H2 G' H1 ∧ (∀ σ δ, StOk K B H0 G H σ δ → StOk K B H0 G' H1 σ δ) ∧ G' p = none ∧ H1 p = some (.lst acc1) ∧ Dats K B G' acc1 accD1 ∧ lcG g tt bdD (wipeD δ vs) cont (es.drop (i + 1)) accD1, fun H1 hn => ⟨m - 1, by omega, by omega, hn⟩, fun x1 H7 hy1 => ?_⟩
    have hd1 : es[i]? = some es[i] := List.getElem?_eq_getElem hlt
    obtain ⟨G7, g7, hx1⟩ := it1.yld i G6 H6 x1 H7 _ ex6 gr6.j hy1 hd1
    rw [List.drop_eq_getElem_cons hlt] at hf6
    have hpn6 : Mu H6 p := ⟨_, hp6, nl rfl⟩
    refine ⟨H0, G7, wipeD δ vs, es[i], _, g7.j, ((tr6 σ δ st).gr g7).wipe vs, hx1, hf6, fun σ8 δ8 q8 s8 u8 => ?_⟩
    refine ⟨by rw [u8.wipe hv, wipe_wipe], H0, G7, δ8, _, g7.j, s8, q8, fun b G9 H9 q9 g9 => ?_⟩
    have g79 := g7.trans g9
    have gp9 : G9 p = none := by rw [g79.old p hpn6]; exact gp6
    cases b with
    | false => exact ⟨G9, acc1, accD1, ex6.trans g79.ex, gr6.trans g79, fun σ δ s => (tr6 σ δ s).gr g79, gp9, g79.keep p _ nb hp6, ha6.mono g79.ex, q9⟩
    | true =>
      refine hb (gr6.trans g79) hp2 gp2 (s8.gr g9) p0 nb gp9 (g79.keep p _ nb hp6) (ha6.mono g79.ex) q9 fun H1 h1 => ?_
      obtain ⟨G1, acc2, accD2, ex1, gr1, tr1, gp1, hp1, ha1, hc1⟩ := h1
      exact ⟨G1, acc2, accD2, (ex6.trans g79.ex).trans ex1, gr1, fun σ δ s => tr1 σ δ ((tr6 σ δ s).gr g79), gp1, hp1, ha1, hc1⟩
  · have e : i = es.length := by omega
    subst e
    rw [List.drop_length] at hf6
    exact .inl ⟨it1.stop _ G6 H6 ex6 gr6.j (Nat.le_refl _), hN _ ⟨G6, acc1, accD1, g5.ex.trans ex6, gr6, tr6, gp6, hp6, ha6, hf6⟩⟩
theorem lift_lcB {ri : DA} {g : DG} {is vs : List Nat} {tt : DT} {bd : Addr → Bd} {bdD : BdD} {σ : L2.St} {H : Hp} {P : VK} (hv : ∀ i ∈ is, i ∈ vs) (hb : ∀ p, LB K B p (bd p) bdD) (q : liftF K B (fun δ Q => ri δ fun ds => lcG g tt bdD (wipeD δ vs) Q ds []) σ H P) :
    tLcB (liftI K B ri) (liftG K B is g) (liftT K B tt) bd vs σ H P := by
  obtain ⟨H0, G, δ, Q, j, st, hr, k⟩ := q
  refine ⟨H0, G, δ, _, j, st, hr, fun ds J G2 H2 q2 g2 it p hp => ?_⟩
  have nb : B.nb p := Gr.neB g2.j hp
  have gp : G2 p = none := fresh_back g2.j.ex hp
  have st2 : StOk K B (upd H0 p (.lst [])) G2 H2 σ δ := (st.gr g2).up0 hp
  have p0 : upd H0 p (.lst []) p ≠ none := by rw [upd_same]; simp
  generalize upd H0 p (HO.lst []) = H0' at st2 p0
  refine ⟨fun i m H' => i + m = ds.length ∧ ∃ G' acc accD, Gr K B G2 H2 G' H' ∧ G' p = none ∧ H' p = some (.lst acc) ∧ Dats K B G' acc accD ∧ lcG g tt bdD (wipeD δ vs) Q (ds.drop i) accD,
    ⟨ds.length, by omega, G2, [], [], Gr.new0 g2.j hp, gp, upd_same, .nil, q2⟩, fun i m H' hw => ?_⟩
  obtain ⟨em, G', acc, accD, gr, gp', hp', ha, hf⟩ := hw
  by_cases hlt : i < ds.length
  · refine .inr ⟨it.go i G' H' gr.ex gr.j hlt, fun H1 => ∃ G1 acc accD, Gr K B G2 H2 G1 H1 ∧ G1 p = none ∧ H1 p = some (.lst acc) ∧ Dats K B G1 acc accD ∧ lcG g tt bdD (wipeD δ vs) Q (ds.drop (i + 1)) accD, fun H1 hn => ⟨m - 1, by omega, by omega, hn⟩, fun x H1 hy => ?_⟩
    have hd : ds[i]? = some ds[i] := List.getElem?_eq_getElem hlt
    obtain ⟨G3, g3, hx⟩ := it.yld i G' H' x H1 _ gr.ex gr.j hy hd
    rw [List.drop_eq_getElem_cons hlt] at hf
    have hpn : Mu H' p := ⟨_, hp', nl rfl⟩
    refine ⟨H0', G3, wipeD δ vs, ds[i], _, g3.j, (st2.gr (gr.trans g3)).wipe vs, hx, hf, fun σ2 δ2 q3 s3 u3 => ?_⟩
    refine ⟨by rw [u3.wipe hv, wipe_wipe], H0', G3, δ2, _, g3.j, s3, q3, fun b G4 H4 q4 g4 => ?_⟩
    have g34 := g3.trans g4
    have gp4 : G4 p = none := by rw [g34.old p hpn]; exact gp'
    have hp4 := g34.keep p _ nb hp'
    have ha4 := ha.mono g34.ex
    cases b with
    | false => exact ⟨G4, acc, accD, gr.trans g34, gp4, hp4, ha4, q4⟩
    | true =>
      refine hb p (gr.trans g34) hp gp (s3.gr g4) p0 nb gp4 hp4 ha4 q4 fun H1 h1 => ?_
      obtain ⟨G1, acc2, accD2, ex1, gr1, tr1, gp1, hp1, ha1, hc1⟩ := h1
      exact ⟨G1, acc2, accD2, gr1, gp1, hp1, ha1, hc1⟩
  · have e : i = ds.length := by omega
    subst e
    rw [List.drop_length] at hf
    exact .inl ⟨it.stop _ G' H' gr.ex gr.j (Nat.le_refl _), k _ p acc G' H' hf (g2.trans gr) (g2.free hp) gp' hp' ha⟩
end
section
variable {X : Cx} {B : Bx}
theorem pf_lc3 {elt tg iter tg1 iter1 tg2 iter2 : Expr} {ifs ifs1 ifs2 : List Expr} {scope : Scope} {own : List (Str × Nat)} {vs1 vs2 : List Nat} {pos : Pos} {ri ri1 ri2 : DA} {g g1 g2 : DG} {is is1 is2 : List Nat} {tt tt1 tt2 : DT} {te : DE} (hc : X.calm = true) (hN : X.N.Nodup) (hi : PID X B tg iter ri) (ok : BlkOk X.N X.env.scope scope own) (hv : ∀ i ∈ is, i ∈ own.map (·.2)) (hv1 : ∀ i ∈ is1, i ∈ vs1) (hv2 : ∀ i ∈ is2, i ∈ vs2) (hw1 : ∀ i ∈ vs1, i ∈ own.map (·.2)) (hw2 : ∀ i ∈ vs2, i ∈ vs1)
    (hg : ∀ (s : Shared) (H : Hp) (C : Addr) (cl : List (Str × Addr)) (fp : List Addr), PGD (X.blk s H scope (compEnvC scope cl C X.env) fp) B tg is g) (ht : ∀ (s : Shared) (H : Hp) (C : Addr) (cl : List (Str × Addr)) (fp : List Addr), PTsD (X.blk s H scope (compEnvC scope cl C X.env) fp) B ifs tt)
    (hi1 : ∀ (s : Shared) (H : Hp) (C : Addr) (cl : List (Str × Addr)) (fp : List Addr), PID (X.blk s H scope (compEnvC scope cl C X.env) fp) B tg1 iter1 ri1)
    (hg1 : ∀ (s : Shared) (H : Hp) (C : Addr) (cl : List (Str × Addr)) (fp : List Addr), PGD (X.blk s H scope (compEnvC scope cl C X.env) fp) B tg1 is1 g1) (ht1 : ∀ (s : Shared) (H : Hp) (C : Addr) (cl : List (Str × Addr)) (fp : List Addr), PTsD (X.blk s H scope (compEnvC scope cl C X.env) fp) B ifs1 tt1)
    (hi2 : ∀ (s : Shared) (H : Hp) (C : Addr) (cl : List (Str × Addr)) (fp : List Addr), PID (X.blk s H scope (compEnvC scope cl C X.env) fp) B tg2 iter2 ri2)
    (hg2 : ∀ (s : Shared) (H : Hp) (C : Addr) (cl : List (Str × Addr)) (fp : List Addr), PGD (X.blk s H scope (compEnvC scope cl C X.env) fp) B tg2 is2 g2) (ht2 : ∀ (s : Shared) (H : Hp) (C : Addr) (cl : List (Str × Addr)) (fp : List Addr), PTsD (X.blk s H scope (compEnvC scope cl C X.env) fp) B ifs2 tt2)
    (he : ∀ (s : Shared) (H : Hp) (C : Addr) (cl : List (Str × Addr)) (fp : List Addr), PD (X.blk s H scope (compEnvC scope cl C X.env) fp) B elt te) (hs : ∀ x, foldedSetIterable iter X.env x = pure x := by intro _; rfl) (hs1 : ∀ env x, foldedSetIterable iter1 env x = pure x := by intro _ _; rfl) (hs2 : ∀ env x, foldedSetIterable iter2 env x = pure x := by intro _ _; rfl) :
    PF X B (.ListComp elt [⟨tg, iter, ifs, 0⟩, ⟨tg1, iter1, ifs1, 0⟩, ⟨tg2, iter2, ifs2, 0⟩] scope pos) (fLc3 ri g tt ri1 g1 tt1 ri2 g2 tt2 te (own.map (·.2)) vs1 vs2) :=
  pe_mono (pe_lc3 hc hN hi ok hw1 hw2 hg ht hi1 hg1 ht1 hi2 hg2 ht2 he hs hs1 hs2) fun _ _ _ q => lift_lcB hv (fun _ => lb_lvl hv1 (lb_lvl hv2 lb_app)) q
end
end DL
namespace L2
open PySem PySem.Spec PyProof.Rows
/-- z[l:u:n] -/
def sl3 (z : Str) (l u : Option Int) (n : Int) : Str := if (n == 1 && (Builtin.Str.strSliceIndices l u n z.length).length == z.length) = true then z else ⟨((Builtin.Str.strSliceIndices l u n z.length).filterMap (z.cps[·]?)).toArray⟩
def tStr3 (te : TE) (tl th ts : TO) : TE := fun σ H Q => te σ H fun x H1 => tl σ H1 fun l H2 => th σ H2 fun u H3 => ts σ H3 fun o H4 => ∃ z n, x = .str z ∧ o = some n ∧ n ≠ 0 ∧ (sl3 z l u n).length ≤ sizeLine ∧ Q (.str (sl3 z l u n)) H4
section
variable {X : Cx} {e : Expr} {lo hi : Option Expr} {st : Expr} {te : TE} {tl th ts : TO} {pos p2 : Pos}
theorem pe_str3 (he : PE X e te) (hl : PO X lo tl) (hu : PO X hi th) (hs : PO X (some st) ts) : PE X (.Subscript e (.Slice lo hi (some st) p2) pos) (tStr3 te tl th ts) := by
  refine ⟨fun pins s σ H Q I h => ?_⟩
  refine Subscript_ (thn (he.run pins s σ H _ I h) fun v s1 ⟨x, H1, I1, r1, q1⟩ => ?_)
  refine wpAny_Slice (thn (hl.run pins s1 σ H1 _ I1 q1) fun vl s2 ⟨l, H2, I2, pl, q2⟩ => thn (hu.run pins s2 σ H2 _ I2 q2) fun vu s3 ⟨u, H3, I3, pu, q3⟩ => thn (hs.run pins s3 σ H3 _ I3 q3) fun vs s4 ⟨o, H4, I4, ps, q4⟩ => ?_)
  obtain ⟨z, n, rfl, rfl, hn, hz, q⟩ := q4
  obtain ⟨t, rfl⟩ := r1
  obtain ⟨l, rfl, rfl⟩ := IsPart.raw pl
  obtain ⟨u, rfl, rfl⟩ := IsPart.raw pu
  obtain ⟨k, rfl, ek⟩ := IsPart.raw ps
  have I5 : Inv X pins σ H4 { s4 with heap := s4.heap.push { cls := .type "slice", data := .fields #[partValue l, partValue u, partValue k] } } := I4.kept (t' := s4.toks) fun b ob q => Heap.get?_push_of_some _ q
  show wpAny (model X.prog X.w) X.A (subscriptTail e (.Slice lo hi (some st) p2) (.str z t) (.ref s4.heap.objs.size)) (EP X pins σ Q) X.xe { s4 with heap := s4.heap.push { cls := .type "slice", data := .fields #[partValue l, partValue u, partValue k] } }
  refine tail_any (ops := [.ref s4.heap.objs.size, .str z t]) (typeIs_str _ z t) F.slot_str_getitem.lookup ?_ (by with_unfolding_all rfl)
  cases k with
  | none => cases ek
  | some kt =>
    obtain ⟨k, tk⟩ := kt
    obtain rfl : n = k := (Option.some.inj ek).symm
    refine wpAny_getItem_str_slice (l := l) (u := u) (st := some (n, tk)) ⟨_, Heap.get?_push_size _ rfl, rfl, rfl⟩ (by show (n == 0) = false; simpa using hn) ?_
    show Made.post (if (n == 1 && (Builtin.Str.strSliceIndices (l.map (·.1)) (u.map (·.1)) n z.length).length == z.length) = true then Made.val (.str z t)
      else Made.str ⟨((Builtin.Str.strSliceIndices (l.map (·.1)) (u.map (·.1)) n z.length).filterMap (z.cps[·]?)).toArray⟩) (EP X pins σ Q) _
    unfold sl3 at q hz
    by_cases c : (n == 1 && (Builtin.Str.strSliceIndices (l.map (·.1)) (u.map (·.1)) n z.length).length == z.length) = true
    · rw [if_pos c] at q ⊢
      exact ⟨.str z, H4, I5, ⟨t, rfl⟩, q⟩
    · rw [if_neg c] at q hz ⊢
      exact ⟨hz, .str _, H4, I5.tok _, ⟨_, rfl⟩, q⟩
end
end L2
namespace DL
open PySem PySem.Spec PyProof.Rows L2 Evl
def oBiXor : O2 := oI fun i j => .int (Builtin.bitXor i j)
section
variable {X : Cx} {B : Bx}
theorem op_bxor_d : OpR X (binaryOp .BitXor) (rLift X.K B oBiXor) := op_int op_xor fun _ _ _ => .int _
theorem iop_bxor_d : OpR X (inplaceOp .BitXor) (rLift X.K B oBiXor) := op_int iop_xor fun _ _ _ => .int _
theorem z_bxor {a b : Int} {Q : D → Prop} : oBiXor (.int a) (.int b) Q = Q (.int (Builtin.bitXor a b)) := propext Iff.rfl
/-- x.bit_length() -/
def intD (d : D) (Q : Int → Prop) : Prop := match d with
  | .int i => Q i
  | _ => False
def dBits (r : DE) : DE := fun δ Q => r δ fun d => intD d fun i => Q (.int (Builtin.Int.intBits i : Nat))
theorem z_bits {r : DE} {δ : DS} {Q : D → Prop} : dBits r δ Q = r δ fun d => intD d fun i => Q (.int (Builtin.Int.intBits i : Nat)) := propext Iff.rfl
theorem z_intD {i : Int} {Q : Int → Prop} : intD (.int i) Q = Q i := propext Iff.rfl
theorem pd_bits {e : Expr} {r : DE} {apos pos : Pos} (he : PD X B e r) (hbase : attributeBase e "bit_length" X.env (eval e X.env) = eval e X.env := by rfl) (hline : (apos.endLine == pos.line) = true := by rfl) : PD X B (.Call (.Attribute e "bit_length" apos) [] [] pos) (dBits r) := pe_mono (pe_bits he hbase hline) fun σ H P q => by
  obtain ⟨H0, G, δ, Q, j, st, hr, k⟩ := q
  refine ⟨H0, G, δ, _, j, st, hr, fun d v G2 H2 q2 g2 h2 => ?_⟩
  cases h2 with
  | int i => exact ⟨i, rfl, k _ _ G2 H2 q2 g2 (.int _)⟩
  | _ => exact q2.elim
/-- z[l:u:n] -/
def strQ (d : D) (Q : Str → Prop) : Prop := match d with
  | .str x => Q x
  | _ => False
def partQ (o : Option Int) (Q : Int → Prop) : Prop := match o with
  | some i => Q i
  | none => False
def dStr3 (r : DE) (rl rh rs : DO) : DE := fun δ Q => r δ fun d => rl δ fun l => rh δ fun u => rs δ fun o => strQ d fun z => partQ o fun n => n ≠ 0 ∧ (sl3 z l u n).length ≤ sizeLine ∧ Q (.str (sl3 z l u n))
theorem z_str3 {r : DE} {rl rh rs : DO} {δ : DS} {Q : D → Prop} : dStr3 r rl rh rs δ Q = r δ fun d => rl δ fun l => rh δ fun u => rs δ fun o => strQ d fun z => partQ o fun n => n ≠ 0 ∧ (sl3 z l u n).length ≤ sizeLine ∧ Q (.str (sl3 z l u n)) := propext Iff.rfl
theorem z_strQ {x : Str} {Q : Str → Prop} : strQ (.str x) Q = Q x := propext Iff.rfl
theorem z_partQ {i : Int} {Q : Int → Prop} : partQ (some i) Q = Q i := propext Iff.rfl
theorem pd_str3 {e st : Expr} {lo hi : Option Expr} {r : DE} {rl rh rs : DO} {p2 pos : Pos} (he : PD X B e r) (hl : POD X B lo rl) (hh : POD X B hi rh) (hs : POD X B (some st) rs) : PD X B (.Subscript e (.Slice lo hi (some st) p2) pos) (dStr3 r rl rh rs) := pe_mono (pe_str3 he hl hh hs) fun σ H P q => by
  obtain ⟨H0, G, δ, Q, j, st, hr, k⟩ := q
  refine ⟨H0, G, δ, _, j, st, hr, fun d v G2 H2 q2 g2 h2 => ?_⟩
  refine ⟨H0, G2, δ, _, g2.j, st.gr g2, q2, fun l G3 H3 q3 g3 => ?_⟩
  refine ⟨H0, G3, δ, _, g3.j, (st.gr g2).gr g3, q3, fun h G4 H4 q4 g4 => ?_⟩
  refine ⟨H0, G4, δ, _, g4.j, ((st.gr g2).gr g3).gr g4, q4, fun o G5 H5 q5 g5 => ?_⟩
  cases h2 with
  | str z =>
    cases o with
    | none => exact q5.elim
    | some n => exact ⟨z, n, rfl, rfl, q5.1, q5.2.1, k _ _ G5 H5 q5.2.2 (((g2.trans g3).trans g4).trans g5) (.str _)⟩
  | _ => exact q5.elim
end
end DL
namespace L2
open PySem PySem.Spec PyProof.Rows
end L2
namespace DL
open PySem PySem.Spec PyProof.Rows L2 Evl
end DL
namespace L2
open PySem PySem.Spec PyProof.Rows
def kfS : Value → Str
  | .str x _ => x
  | _ => ⟨#[]⟩
/-- the set of texts at a: S its members, n their number; its table rises and can be walked -/
def TxS (P : Program) (w : World) (h : Heap) (a : Addr) (S : Str → Bool) (n : Nat) : Prop :=
  ∃ o es ep t, h.get? a = some o ∧ o.ExactSet ∧ o.data = .set es ep t ∧ ElemsOf (PySem.strKind P w) es.toList ∧ (es.toList.map fun e => kfS e.2).Nodup ∧ (∀ k, S k = true ↔ k ∈ es.toList.map fun e => kfS e.2) ∧
    es.size < scanBound ∧ t.fits es.size = true ∧ es.size = n ∧ Ris t.place.toList ∧ (w.params.followText "set-order" = true ∨ t.led = true)
section
variable {P : Program} {w : World} {h h' : Heap} {a : Addr} {S : Str → Bool} {n : Nat}
theorem TxS.at (R : TxS P w h a S n) (k : ∀ o, h.get? a = some o → h'.get? a = some o) : TxS P w h' a S n := by
  obtain ⟨o, es, ep, t, ho, r⟩ := R
  exact ⟨o, es, ep, t, k o ho, r⟩
end
end L2
namespace L2
open PySem PySem.Spec PyProof.Rows PySem.W PySem.Calls
end L2
namespace DL
open PySem PySem.Spec PyProof.Rows L2 Evl
end DL
namespace DL
open PySem PySem.Spec PyProof.Rows L2 Evl
end DL
namespace L2
open PySem PySem.Spec PyProof.Rows
section
variable {κ : Type} [DecidableEq κ] {P : Program} {w : World} (knd : KeyKind P w κ)
variable {knd}
variable {A : Around} {E : Value → Shared → Prop} {s : Shared}
def rowsK (knd : KeyKind P w κ) (L : List (Addr × List κ)) : List (Int × Value) := L.map fun p => (tupleKeyHash knd p.2, Value.ref p.1)
structure SetK2 (knd : KeyKind P w κ) (h : Heap) (a : Addr) (L : List (Addr × List κ)) (es : Array (Int × Value)) (ep : Nat) (t : SetTable) : Prop where
  ob : ∃ o, h.get? a = some o ∧ o.ExactSet ∧ o.data = .set es ep t
  rows : es.toList = rowsK knd L
  tab : TabOk t (L.map fun p => tupleKeyHash knd p.2)
  nd : (L.map (·.2)).Nodup
  tup : ∀ p ∈ L, IsTupleKey knd h p.2 p.1
  led : w.params.followText "set-order" = true ∨ t.led = true
  room : L.length * 5 < t.mask * 3
  few : L.length < 64
variable {a : Addr} {L : List (Addr × List κ)} {es : Array (Int × Value)} {ep : Nat} {t : SetTable}
theorem rowsK_len {es : Array (Int × Value)} {L : List (Addr × List κ)} (h : es.toList = rowsK knd L) : es.size = L.length := by
  have h := congrArg List.length h
  unfold rowsK at h
  rw [Array.length_toList, List.length_map] at h
  exact h
theorem SetK2.size (R : SetK2 knd s.heap a L es ep t) : es.size = L.length := rowsK_len R.rows
theorem SetK2.fits (R : SetK2 knd s.heap a L es ep t) : t.fits es.size = true := by
  have h1 := R.tab.sz
  rw [List.length_map] at h1
  have h2 := R.size
  have h3 := R.room
  unfold SetTable.fits SetTable.fill
  rw [R.tab.dm, Bool.and_eq_true, beq_iff_eq, decide_eq_true_eq]
  show t.place.size = es.size ∧ t.place.size + 0 ≤ t.mask
  omega
end
end L2
namespace L2
open PySem PySem.Spec PyProof.Rows PySem.W PySem.Calls
section
variable {κ : Type} [DecidableEq κ] {P : Program} {w : World} {knd : KeyKind P w κ}
/-- what the set has got from the first i items -/
structure GotK (zs L : List (Addr × List κ)) (i : Nat) : Prop where
  sub : ∀ p ∈ L, p ∈ zs.take i
  all : ∀ k, k ∈ L.map (·.2) ↔ k ∈ (zs.take i).map (·.2)
  len : L.length ≤ i
theorem GotK.same {zs L : List (Addr × List κ)} {i : Nat} {x : Addr × List κ} (g : GotK zs L i) (h : zs[i]? = some x) (hm : x.2 ∈ L.map (·.2)) : GotK zs L (i + 1) := by
  have e : zs.take (i + 1) = zs.take i ++ [x] := by rw [List.take_add_one, h]; rfl
  refine ⟨fun p hp => by rw [e]; exact List.mem_append_left _ (g.sub p hp), fun k => ?_, Nat.le_succ_of_le g.len⟩
  rw [e, List.map_append, List.mem_append, ← g.all k]
  refine ⟨.inl, fun z => z.elim id fun z => ?_⟩
  have z : k = x.2 := by simpa using z
  rw [z]
  exact hm
theorem GotK.more {zs L L' : List (Addr × List κ)} {i : Nat} {x : Addr × List κ} (g : GotK zs L i) (h : zs[i]? = some x) (pm : L'.Perm (x :: L)) : GotK zs L' (i + 1) := by
  have e : zs.take (i + 1) = zs.take i ++ [x] := by rw [List.take_add_one, h]; rfl
  refine ⟨fun p hp => ?_, fun k => ?_, ?_⟩
  · rw [e]
    rcases List.mem_cons.mp (pm.mem_iff.mp hp) with z | z
    · rw [z]
      exact List.mem_append_right _ List.mem_cons_self
    · exact List.mem_append_left _ (g.sub p z)
  · rw [e, (pm.map (·.2)).mem_iff, List.map_cons, List.mem_cons, List.map_append, List.mem_append, g.all k]
    constructor
    · rintro (z | z)
      · exact .inr (by simpa using z)
      · exact .inl z
    · rintro (z | z)
      · exact .inr z
      · exact .inl (by simpa using z)
  · rw [pm.length_eq]
    exact Nat.succ_le_succ g.len
theorem tupKey_keep {h h' : Heap} {k : List κ} {b : Addr} (x : IsTupleKey knd h k b) (hk : ∀ o, h.get? b = some o → h'.get? b = some o) : IsTupleKey knd h' k b := by
  obtain ⟨o, items, n, ho, r⟩ := x
  exact ⟨o, items, n, hk o ho, r⟩
theorem SetK2.at {h h' : Heap} {a : Addr} {L : List (Addr × List κ)} {es : Array (Int × Value)} {ep : Nat} {t : SetTable} (R : SetK2 knd h a L es ep t) (ka : ∀ o, h.get? a = some o → h'.get? a = some o) (kt : ∀ p ∈ L, ∀ o, h.get? p.1 = some o → h'.get? p.1 = some o) : SetK2 knd h' a L es ep t := by
  obtain ⟨⟨o, ho, r⟩, r1, r2, r3, r4, r5, r6, r7⟩ := R
  exact ⟨⟨o, ka o ho, r⟩, r1, r2, r3, fun p hp => tupKey_keep (r4 p hp) (kt p hp), r5, r6, r7⟩
variable {A : Around} {E : Value → Shared → Prop} {s : Shared}
end
end L2
namespace DL
open PySem PySem.Spec PyProof.Rows L2 Evl
end DL
namespace L2
open PySem PySem.Spec PyProof.Rows PySem.W PySem.Calls
end L2
namespace DL
open PySem PySem.Spec PyProof.Rows L2 Evl
end DL
namespace DL
open PySem PySem.Spec PyProof.Rows L2 Evl
def hidF (H : Hp) (f : List Addr) : Hp := fun b => if b ∈ f then none else H b
theorem hidF_in {H : Hp} {f : List Addr} {p : Addr} (h : p ∈ f) : hidF H f p = none := if_pos h
theorem hidF_ne {H : Hp} {f : List Addr} {p : Addr} (h : p ∉ f) : hidF H f p = H p := if_neg h
theorem hidF_le {H : Hp} {f : List Addr} {b : Addr} {o : HO} (h : hidF H f b = some o) : H b = some o := by
  unfold hidF at h
  split at h
  · cases h
  · exact h
def startC (n : Nat) (ds1 : List D) (v : V) (o : OD) (ds2 : List D) : DS := ds1.map (fun d => some (.sh d)) ++ some (.ow v o) :: (ds2.map (fun d => some (.sh d)) ++ List.replicate (n - (ds1.length + (ds2.length + 1))) none)
theorem startC_ok {K : PySem.W.Frag} {B : Bx} {H0 G H : Hp} {N : List Str} {us1 us2 : List V} {ds1 ds2 : List D} {v : V} {o : OD} {f : List Addr} (h1 : Dats K B G us1 ds1) (h2 : Dats K B G us2 ds2) (ho : Own K B G H v o f) (nd : f.Nodup) (hf : ∀ p ∈ f, H0 p = none ∧ B.nb p) :
    StOk K B H0 G H (L2.start N (us1 ++ v :: us2)) (startC N.length ds1 v o ds2) := by
  have l1 := h1.len
  have l2 := h2.len
  have e0 : L2.start N (us1 ++ v :: us2) = us1.map some ++ some v :: (us2.map some ++ List.replicate (N.length - (us1.length + (us2.length + 1))) none) := by
    unfold L2.start
    rw [List.map_append, List.map_cons, List.append_assoc, List.cons_append, List.length_append, List.length_cons]
  rw [e0]
  unfold startC
  refine ⟨fun i => if i = us1.length then f else [], ?_, fun i ov od e1 e2 => ?_, fun i j _ _ hij p hp hq => ?_⟩
  · simp only [List.length_append, List.length_map, List.length_cons, List.length_replicate]
    omega
  · rcases Nat.lt_trichotomy i us1.length with hi | hi | hi
    · rw [if_neg (Nat.ne_of_lt hi)]
      rw [List.getElem?_append_left (by rw [List.length_map]; exact hi), List.getElem?_map] at e1
      rw [List.getElem?_append_left (by rw [List.length_map, ← l1]; exact hi), List.getElem?_map] at e2
      cases hd : ds1[i]? with
      | none => rw [hd] at e2; cases e2
      | some d' =>
        rw [hd] at e2
        cases e2
        obtain ⟨v, h3, h4⟩ := h1.get hd
        rw [h3] at e1
        cases e1
        exact .sh h4
    · subst hi
      rw [if_pos rfl]
      rw [List.getElem?_append_right (by rw [List.length_map]; exact Nat.le_refl _), List.length_map, Nat.sub_self] at e1
      rw [List.getElem?_append_right (by rw [List.length_map, ← l1]; exact Nat.le_refl _), List.length_map, ← l1, Nat.sub_self] at e2
      cases e1
      cases e2
      exact .ow ho nd hf
    · rw [if_neg (Nat.ne_of_gt hi)]
      obtain ⟨j, rfl⟩ : ∃ j, i = us1.length + (j + 1) := ⟨i - us1.length - 1, by omega⟩
      rw [List.getElem?_append_right (by rw [List.length_map]; omega), List.length_map, show us1.length + (j + 1) - us1.length = j + 1 by omega, List.getElem?_cons_succ] at e1
      rw [List.getElem?_append_right (by rw [List.length_map, ← l1]; omega), List.length_map, ← l1, show us1.length + (j + 1) - us1.length = j + 1 by omega, List.getElem?_cons_succ] at e2
      by_cases hj : j < us2.length
      · rw [List.getElem?_append_left (by rw [List.length_map]; exact hj), List.getElem?_map] at e1
        rw [List.getElem?_append_left (by rw [List.length_map, ← l2]; exact hj), List.getElem?_map] at e2
        cases hd : ds2[j]? with
        | none => rw [hd] at e2; cases e2
        | some d' =>
          rw [hd] at e2
          cases e2
          obtain ⟨v, h3, h4⟩ := h2.get hd
          rw [h3] at e1
          cases e1
          exact .sh h4
      · rw [List.getElem?_append_right (by rw [List.length_map, ← l2]; omega), List.getElem?_replicate] at e2
        split at e2
        · cases e2
          exact .no
        · cases e2
  · split at hp
    · rename_i h
      split at hq
      · rename_i h'
        exact hij (h.trans h'.symm)
      · cases hq
    · cases hp
end DL
namespace DL
open PySem PySem.Spec PyProof.Rows L2 Evl
end DL
namespace DL
open PySem PySem.Spec PyProof.Rows L2 Evl
end DL
namespace L2
open PySem PySem.Spec PyProof.Rows PySem.W
def putW : Hp → List Addr → List (V × V) → Hp
  | H, a :: as, p :: kvs => putW (upd H a (.tup [p.1, p.2])) as kvs
  | H, _, _ => H
theorem putW_off {b : Addr} : ∀ (as : List Addr) (kvs : List (V × V)) (H : Hp), b ∉ as → putW H as kvs b = H b
  | [], _, _, _ => rfl
  | _ :: _, [], _, _ => rfl
  | a :: as, p :: kvs, H, h => by
    show putW (upd H a (.tup [p.1, p.2])) as kvs b = H b
    rw [putW_off as kvs _ (fun z => h (List.mem_cons_of_mem _ z)), upd_ne (fun z => h (by rw [z]; exact List.mem_cons_self))]
theorem putW_at : ∀ (as : List Addr) (kvs : List (V × V)) (H : Hp), as.length = kvs.length → as.Nodup → Paired (fun (t : Addr) (p : V × V) => putW H as kvs t = some (.tup [p.1, p.2])) as kvs
  | [], [], _, _, _ => .nil
  | [], _ :: _, _, h, _ => by cases h
  | _ :: _, [], _, h, _ => by cases h
  | a :: as, p :: kvs, H, h, hn => by
    have hn' := List.nodup_cons.mp hn
    have ih := putW_at as kvs (upd H a (.tup [p.1, p.2])) (Nat.succ.inj h) hn'.2
    refine .cons ?_ ih
    show putW (upd H a (.tup [p.1, p.2])) as kvs a = some (.tup [p.1, p.2])
    rw [putW_off as kvs _ hn'.1, upd_same]
section
variable {X : Cx}
theorem itemsW_laid {pins : List (Addr × Obj)} {σ : L2.St} {H : Hp} {s : Shared} {h' : Heap} {tk : Nat} {ws : List (V × V)} {es : Array DictEntry} {acc : Array Value} {c : Nat} {as : List Addr} (I : Inv X pins σ H s) (hz : ws.length ≤ sizeLine) (lk : ws.length = es.size)
    (kv : ∀ (i : Nat) (hi : i < es.size) (w : V × V), ws[i]? = some w → RelV w.1 es[i].key ∧ RelV w.2 es[i].val)
    (hk : ∀ b o, s.heap.get? b = some o → h'.get? b = some o) (hS : h'.get? s.heap.objs.size = some { cls := .type "list", dict := none, data := .seq acc c, slots := #[] }) (hl : as.length = es.size) (hG : DilG es s.heap.objs.size h' as) (hacc : acc.toList = as.map Value.ref) :
    ∃ H' : Hp, (∀ b o, H b = some o → H' b = some o) ∧ H s.heap.objs.size = none ∧ (∀ t ∈ as, H t = none) ∧ s.heap.objs.size ∉ as ∧ H' s.heap.objs.size = some (.lst (as.map V.ref)) ∧ Paired (fun (t : Addr) (q : V × V) => H' t = some (.tup [q.1, q.2])) as ws ∧ Inv X pins σ H' { s with heap := h', toks := tk } := by
  have hSn : s.heap.objs.size ∉ as := fun z => Nat.lt_irrefl _ (hG.above _ z)
  have nd : as.Nodup := List.Pairwise.imp (fun {a b} (h : a < b) => Nat.ne_of_lt h) hG.rise
  have new : ∀ t ∈ as, H t = none := fun t ht => I.hok.fresh (Nat.le_of_lt (hG.above t ht))
  have newS : H s.heap.objs.size = none := I.hok.fresh (Nat.le_refl _)
  have atP := putW_at as ws (upd H s.heap.objs.size (.lst (as.map V.ref))) (by omega) nd
  have off : ∀ b, b ∉ as → b ≠ s.heap.objs.size → putW (upd H s.heap.objs.size (.lst (as.map V.ref))) as ws b = H b := fun b h1 h2 => by rw [putW_off as ws _ h1, upd_ne h2]
  have low : ∀ b o, s.heap.get? b = some o → b ∉ as ∧ b ≠ s.heap.objs.size := fun b o e => ⟨fun z => absurd (Heap.lt_size e) (Nat.not_lt.mpr (Nat.le_of_lt (hG.above b z))), Nat.ne_of_lt (Heap.lt_size e)⟩
  have kp : ∀ b u, H b = some u → (putW (upd H s.heap.objs.size (.lst (as.map V.ref))) as ws) b = some u := fun b u e => by
    rw [off b (fun z => by rw [new b z] at e; cases e) (fun z => by rw [z, newS] at e; cases e)]
    exact e
  have eS : putW (upd H s.heap.objs.size (.lst (as.map V.ref))) as ws s.heap.objs.size = some (.lst (as.map V.ref)) := by rw [putW_off as ws _ hSn, upd_same]
  refine ⟨putW (upd H s.heap.objs.size (.lst (as.map V.ref))) as ws, kp, newS, new, hSn, eS, atP, ?_⟩
  refine I.call' (ch := []) rfl ⟨fun b o q _ _ _ => hk b o q, fun b o q _ _ _ => ⟨o.slots, hk b o q⟩, fun b o q n _ => ?_, fun b o q _ => ⟨o, hk b o q⟩, fun b xs q => kp b _ q, fun b o u q => kp b _ q, fun b ps q => ⟨#[], by rw [kp b _ q]; simp⟩⟩ (fun b u q => ?_) I.bare fun b z => by simp at z
  · obtain ⟨z1, z2⟩ := low b o q
    rw [off b z1 z2]
    exact n
  · by_cases hb : b ∈ as
    · obtain ⟨j, pk, e1, e2, e3⟩ := LiI.paired_ix atP hb
      rw [e3] at q
      cases q
      obtain ⟨hj, f3⟩ := hG.pairs j b e1
      obtain ⟨r1, r2⟩ := kv j hj pk e2
      exact ⟨by show 2 ≤ sizeLine; decide, [es[j].key, es[j].val], .cons r1 (.cons r2 .nil), ⟨_, f3, rfl, _, rfl⟩⟩
    · by_cases hb2 : b = s.heap.objs.size
      · rw [hb2] at q ⊢
        rw [eS] at q
        cases q
        refine ⟨by rw [List.length_map]; omega, acc.toList, c, by rw [hacc]; exact LiI.vals_refs as, ?_⟩
        rw [Array.toArray_toList]
        exact hS
      · rw [off b hb hb2] at q
        exact (I.hok b u q).stay (fun d v _ y => hk d v y) (fun d y => kp d _ y) fun d xs y => kp d _ y
end
theorem paired_at {α β : Type} {F : α → β → Prop} : ∀ {xs : List α} {ys : List β}, xs.length = ys.length → (∀ (i : Nat) (a : α) (b : β), xs[i]? = some a → ys[i]? = some b → F a b) → Paired F xs ys
  | [], [], _, _ => .nil
  | [], _ :: _, h, _ => by cases h
  | _ :: _, [], h, _ => by cases h
  | x :: xs, y :: ys, h, k => .cons (k 0 x y rfl rfl) (paired_at (Nat.succ.inj h) fun i a b ha hb => k (i + 1) a b ha hb)
def rItT : V → Hp → VK → Prop := fun x H Q => ∃ (d : Addr) (od : Obj) (kvs : List (List Key × V)), x = .ref d ∧ H d = some (.frz od (.dT kvs)) ∧
  ∀ (H2 : Hp) (l : Addr) (ts : List Addr), (∀ b o, H b = some o → H2 b = some o) → H l = none → H2 l = some (.lst (ts.map V.ref)) → Paired (fun (t : Addr) (z : List Key × V) => ∃ b, H2 t = some (.tup [.ref b, z.2]) ∧ H2 b = some (.tup (z.1.map kV))) ts kvs → Q (.ref l) H2
def keyAt : Value → V
  | .ref q => .ref q
  | _ => .non
/-- list(e.items()), e locked, its keys tuples -/
theorem pe_itT {X : Cx} {e : Expr} {te : TE} {p apos cpos pos : Pos} (hc : X.calm = true) (he : PE X e te) (hg : Gl X "list") (hm : X.mg "list" = none) (hbase : attributeBase e "items" X.env (eval e X.env) = eval e X.env := by rfl) (hline : (apos.endLine == cpos.line) = true := by rfl)
    (hs : starEach [.Call (.Attribute e "items" apos) [] [] cpos] X.env = (false, eval (.Call (.Attribute e "items" apos) [] [] cpos) X.env) :: starEach [] X.env := by rfl) :
    PE X (.Call (.Name "list" p) [.Call (.Attribute e "items" apos) [] [] cpos] [] pos) (fun σ H Q => te σ H fun x H1 => rItT x H1 Q) := by
  refine ⟨fun pins s σ H Q I0 q0 => wpAny_Call_Name_kw (ld_blt (u := .type "list") I0 hg hm (by decide +kernel) (PyProof.Rows.callWith_type1 ?_ hs rfl))⟩
  rw [hs]
  show wpAny _ _ (spliced ((false, eval (.Call (.Attribute e "items" apos) [] [] cpos) X.env) :: backTo pos (starEach [] X.env))) _ _ s
  refine Calls.spliced_cons (wpAny_Call_method (T := "dict") (id := "dict.items") hbase rfl hline F.plainAttrs_dict F.slot_dict_items F.type_dict_items (thn (he.run pins s σ H _ I0 q0) fun u s1 ⟨x, H1, I, rx, z⟩ => ?_))
  obtain ⟨d, o, kvs, rfl, hd, q⟩ := z
  obtain rfl : u = Value.ref d := rx
  obtain ⟨h0, hgd, hx, es, ep, hdt, hsz, ent⟩ := frzTV I hd
  obtain ⟨hz, _, _⟩ := dt_rd I.hok (.inr ⟨o, hd⟩)
  have raw : s1.heap.DictRaw d es ep := ⟨o, hgd, hx, hdt⟩
  have I2 : Inv X pins σ H1 { s1 with heap := s1.heap.push { cls := .type "dict_items", data := .fields #[.ref d] } } := I.kept (t' := s1.toks) fun b ob e => Heap.get?_push_of_some _ e
  obtain ⟨ob, r1, r2, r3⟩ := id raw
  have ty : s1.TypeIs (.ref d) "dict" := ⟨ob, r1, r2.1⟩
  refine ⟨ty, fun a e => ?_, ?_⟩
  · cases e
    exact ⟨ob, r1, r2.2.1⟩
  show wpAny _ _ (callWith cpos (.builtin "dict.items") [.ref d] [] []) _ X.xe s1
  refine method_meetsIn F.slot_dict_items F.entry_dict_items rfl (PySem.evalArgs_none ⟨rfl, ty, F.args_dict_items_1 _, _, meets_dict_items_raw d h0, ⟨es, ep, raw⟩, Calls.spliced_nil ?_⟩)
  refine dil_call (ep := ep) (es := es) (d := d) (I.ok.hd hc) ⟨_, Heap.get?_push_size _ rfl, rfl, rfl⟩ ⟨ob, Heap.get?_push_of_some _ r1, r2, r3⟩ (by rw [hsz]; exact hz) fun h2 tk acc c as a1 a2 a3 a4 a5 => ?_
  have wl : ((kvs.zip es.toList).map fun z => (keyAt z.2.key, z.1.2)).length = es.size := by
    have e0 : es.toList.length = es.size := Array.length_toList
    rw [List.length_map, List.length_zip, e0]
    omega
  have wat : ∀ (i : Nat) (k : List Key) (v : V), kvs[i]? = some (k, v) → ∃ (en : DictEntry) (b : Addr), es[i]? = some en ∧ en.key = .ref b ∧ H1 b = some (.tup (k.map kV)) ∧ RelV v en.val ∧ ((kvs.zip es.toList).map fun z => (keyAt z.2.key, z.1.2))[i]? = some (V.ref b, v) := fun i k v e => by
    obtain ⟨en, b, e1, e2, e3, e4⟩ := ent i k v e
    refine ⟨en, b, e1, e2, e3, e4, ?_⟩
    have e6 : (kvs.zip es.toList)[i]? = some ((k, v), en) := List.getElem?_zip_eq_some.mpr ⟨e, by rw [Array.getElem?_toList]; exact e1⟩
    rw [List.getElem?_map, e6]
    show some (keyAt en.key, v) = _
    rw [e2]
    rfl
  obtain ⟨H2, k1, k2, _, _, k5, k6, J⟩ := itemsW_laid (tk := tk) (ws := (kvs.zip es.toList).map fun z => (keyAt z.2.key, z.1.2)) I2 (by rw [wl, hsz]; exact hz) wl (fun i hi w e => by
    have hik : i < kvs.length := by omega
    obtain ⟨en, b, e1, e2, _, e4, e5⟩ := wat i _ _ (List.getElem?_eq_getElem hik)
    rw [e5] at e
    cases e
    rw [Array.getElem?_eq_getElem hi] at e1
    cases e1
    exact ⟨by rw [e2]; rfl, e4⟩) a1 a2 a3 a4 a5
  have pr : Paired (fun (t : Addr) (z : List Key × V) => ∃ b, H2 t = some (.tup [.ref b, z.2]) ∧ H2 b = some (.tup (z.1.map kV))) as kvs := by
    refine paired_at (by rw [Paired.length k6, wl, hsz]) fun i t z et ez => ?_
    obtain ⟨en, b, e1, e2, e3, e4, e5⟩ := wat i z.1 z.2 ez
    obtain ⟨w, ew, hw⟩ := LiI.paired_get k6 et
    rw [e5] at ew
    cases ew
    exact ⟨b, hw, k1 _ _ e3⟩
  exact ⟨.ref _, H2, J, rfl, q H2 _ as k1 k2 k5 pr⟩
end L2
namespace DL
open PySem PySem.Spec PyProof.Rows L2 Evl
section
variable {K : PySem.W.Frag} {B : Bx} {G H G2 H2 : Hp}
/-- a tuple that stands is known, or becomes so -/
theorem Gr.knowT {p : Addr} {vs : List V} (j : Jn K B G H) (hp : H p = some (.tup vs)) : ∃ G', Gr K B G H G' H ∧ G' p = some (.tup vs) ∧ ∀ a, G' a = G a ∨ ∃ us, H a = some (.tup us) := by
  cases e : G p with
  | none =>
    refine ⟨_, Gr.learn j hp e, upd_same, fun a => ?_⟩
    by_cases ea : a = p
    · exact .inr ⟨vs, by rw [ea]; exact hp⟩
    · exact .inl (upd_ne ea)
  | some o =>
    have := j.ex p o e
    rw [hp] at this
    cases this
    exact ⟨G, Gr.refl j, e, fun a => .inl rfl⟩
theorem keyVs_of {k : List Key} {b : Addr} (h : G b = some (.tup (k.map kV))) : Dat K B G (.ref b) (embT k) := by
  have key : ∀ k : List Key, Dats K B G (k.map kV) (k.map embK) := fun k => by
    induction k with
    | nil => exact .nil
    | cons x k ih =>
      refine .cons ?_ ih
      cases x with
      | inl i => exact .int i
      | inr x => exact .str x
  exact .tup h (key k)
theorem itemsT_know : ∀ {ts : List Addr} {kvs : List (List Key × V)} {ks : List (D × D)} {G : Hp}, Jn K B G H → DatT K B G kvs ks → Paired (fun (t : Addr) (z : List Key × V) => ∃ b, H t = some (.tup [.ref b, z.2]) ∧ H b = some (.tup (z.1.map kV))) ts kvs →
    ∃ G', Gr K B G H G' H ∧ Dats K B G' (ts.map V.ref) (ks.map fun z => D.tup [z.1, z.2]) ∧ ∀ a, G' a = G a ∨ ∃ us, H a = some (.tup us)
  | _, _, _, G, j, .nil, .nil => ⟨G, Gr.refl j, .nil, fun _ => .inl rfl⟩
  | _, _, _, G, j, .cons hv hk, .cons h tl => by
    obtain ⟨b, h1, h2⟩ := h
    obtain ⟨G1, g1, e1, f1⟩ := Gr.knowT j h1
    obtain ⟨G2, g2, e2, f2⟩ := Gr.knowT g1.j h2
    have g12 := g1.trans g2
    obtain ⟨G3, g3, ds, f3⟩ := itemsT_know g2.j (hk.mono g12.ex) tl
    refine ⟨G3, g12.trans g3, .cons (.tup (g3.ex _ _ (g2.ex _ _ e1)) (.cons ((keyVs_of e2).mono g3.ex) (.cons (hv.mono (g12.trans g3).ex) .nil))) ds, fun a => ?_⟩
    rcases f3 a with z | z
    · rcases f2 a with z2 | z2
      · rcases f1 a with z3 | z3
        · exact .inl (by rw [z, z2, z3])
        · exact .inr z3
      · exact .inr z2
    · exact .inr z
end
def keysT (ks : List (D × D)) : Bool := !ks.isEmpty && ks.all fun z => (dkT z.1).isSome
/-- the data of a dict with tuple keys -/
def dctD (d : D) (K : List (D × D) → Prop) : Prop := match d with
  | .dic ks => keysT ks = true ∧ K ks
  | _ => False
def fItemsT (r : DE) : DA := fun δ Q => r δ fun d => dctD d fun ks => Q (ks.map fun z => D.tup [z.1, z.2])
section
variable {X : Cx} {B : Bx} {e : Expr} {r : DE} {p apos cpos pos : Pos}
theorem pf_itemsT (hc : X.calm = true) (he : PD X B e r) (hg : Gl X "list") (hm : X.mg "list" = none) (hbase : attributeBase e "items" X.env (eval e X.env) = eval e X.env := by rfl) (hline : (apos.endLine == cpos.line) = true := by rfl)
    (hs : starEach [.Call (.Attribute e "items" apos) [] [] cpos] X.env = (false, eval (.Call (.Attribute e "items" apos) [] [] cpos) X.env) :: starEach [] X.env := by rfl) :
    PF X B (.Call (.Name "list" p) [.Call (.Attribute e "items" apos) [] [] cpos] [] pos) (fItemsT r) := pe_mono (pe_itT hc he hg hm hbase hline hs) fun σ H P q => by
  obtain ⟨H0, G, δ, Q, j, st, hr, k⟩ := q
  refine ⟨H0, G, δ, _, j, st, hr, fun d v G2 H2 q2 g2 d2 => ?_⟩
  cases d2 with
  | dT h1 h3 =>
    obtain ⟨_, q2⟩ := q2
    refine ⟨_, _, _, rfl, g2.j.ex _ _ h1, fun H' l ts hk hl hL hP => ?_⟩
    have g3 := Gr.grow g2.j hk
    obtain ⟨G4, g4, ds, f⟩ := itemsT_know g3.j h3 hP
    have gl : G4 l = none := by
      rcases f l with z | ⟨us, z⟩
      · rw [z]
        exact fresh_back g2.j.ex hl
      · rw [hL] at z
        cases z
    exact k _ l _ G4 H' q2 ((g2.trans g3).trans g4) (g2.free hl) gl hL ds
  | dK h1 h3 =>
    obtain ⟨kf, _⟩ := q2
    cases h3 with
    | nil => cases kf
    | consI _ _ =>
      rw [keysT, List.all_cons] at kf
      have z := (Bool.and_eq_true_iff.mp (Bool.and_eq_true_iff.mp kf).2).1
      cases z
    | consS _ _ =>
      rw [keysT, List.all_cons] at kf
      have z := (Bool.and_eq_true_iff.mp (Bool.and_eq_true_iff.mp kf).2).1
      cases z
  | _ => exact q2.elim
end
/-- pairs with tuple keys -/
def prT1 : D → Option (D × D)
  | .tup [k, v] => if (dkT k).isSome = true then some (k, v) else none
  | _ => none
def prTs : List D → Option (List (D × D))
  | [] => some []
  | d :: ds => match prT1 d, prTs ds with
    | some x, some xs => some (x :: xs)
    | _, _ => none
def prsQ (d : D) (Q : OD → Prop) : Prop := match d with
  | .lst xs => match prTs xs with
    | some ks => ks.Pairwise (fun x y => keqD x.1 y.1 = false) ∧ Q (.dic true (ks.map fun z => (z.1, OD.sh z.2)))
    | none => False
  | _ => False
def oDictD (r : DE) : OE := fun δ Q => r δ fun d => prsQ d Q
section
variable {K : PySem.W.Frag} {B : Bx} {G H : Hp}
theorem prs_data (e : Ex G H) : ∀ {vs : List V} {xs : List D} {ks : List (D × D)}, Dats K B G vs xs → prTs xs = some ks → ∃ ts kvs, vs = ts.map V.ref ∧ Prs K B G H ts kvs (ks.map fun z => (z.1, OD.sh z.2)) []
  | _, _, _, .nil, h => by
    cases h
    exact ⟨[], [], rfl, .nil⟩
  | v :: vs, x :: xs, ks, .cons hd t, h => by
    rw [prTs] at h
    cases h1 : prT1 x with
    | none => rw [h1] at h; cases h
    | some z =>
      cases h2 : prTs xs with
      | none => rw [h1, h2] at h; cases h
      | some zs =>
        rw [h1, h2] at h
        cases h
        obtain ⟨ts, kvs, rfl, ih⟩ := prs_data e t h2
        unfold prT1 at h1
        split at h1
        · rename_i k w
          split at h1
          · rename_i hk
            cases h1
            cases hd with
            | tup g1 g2 =>
              cases g2 with
              | cons d1 d2 =>
                cases d2 with
                | cons d2 d3 =>
                  cases d3
                  obtain ⟨kk, ek⟩ := Option.isSome_iff_exists.mp hk
                  obtain ⟨b, eu, eb⟩ := keyT d1 ek
                  have ey := emb_dkT ek
                  subst eu ey
                  exact ⟨_ :: ts, (kk, _) :: kvs, rfl, Prs.cons (f := []) (e _ _ g1) (e _ _ eb) (.sh d2) ih⟩
          · cases h1
        · cases h1
end
section
variable {X : Cx} {B : Bx} {e : Expr} {r : DE} {p pos : Pos}
theorem po_dictD (hc : X.calm = true) (hu : X.A.units + 2 < cLine) (hg : Gl X "dict") (hm : X.mg "dict" = none) (ha : PD X B e r) (hs : starEach [e] X.env = (false, eval e X.env) :: starEach [] X.env := by rfl) (hpl : (backTo pos (starEach [] X.env)).any (·.1) = false := by rfl) :
    PO X B (.Call (.Name "dict" p) [e] [] pos) (oDictD r) := pe_mono (pe_callTy (call_dictPT hc hu) hg hm (by decide +kernel) (pa_cons ha pa_nil hs) (by decide) (by decide) hs hpl) fun σ H P q => by
  obtain ⟨H0, G, δ, Q, j, st, hr, k⟩ := q
  refine ⟨H0, G, δ, _, j, st, hr, fun d v G2 H2 q2 g2 d2 => ?_⟩
  cases d2 with
  | lst h1 h3 =>
    unfold prsQ at q2
    dsimp only at q2
    split at q2
    · rename_i xs ks hks
      obtain ⟨ts, kvs, rfl, pr⟩ := prs_data g2.j.ex h3 hks
      obtain ⟨hn, q2⟩ := q2
      have hn2 : (kvs.map (·.1)).Nodup := by
        have h4 : ((ks.map fun z => (z.1, OD.sh z.2)).map (·.1)).Pairwise (fun x y => keqD x y = false) := by
          rw [List.map_map]
          exact List.pairwise_map.mpr hn
        rw [← pr.keys] at h4
        refine (List.pairwise_map.mp h4).imp fun {a b} z e => ?_
        subst e
        rw [keqD_T, decide_eq_true rfl] at z
        cases z
      refine ⟨_, ts, kvs, rfl, sq_of (g2.j.ex _ _ h1), pr.prt, hn2, fun l hl => ?_⟩
      have d3 := pr.upd (o := .dT kvs) (fun vs z => by rw [hl] at z; cases z) (fun z => nomatch z)
      exact k _ _ [l] G2 _ q2 (g2.trans (Gr.new0 g2.j hl)) (.dT upd_same (fresh_back g2.j.ex hl) d3.own) ⟨List.nodup_cons.mpr ⟨List.not_mem_nil, List.nodup_nil⟩, fun q hq => by cases List.mem_singleton.mp hq; exact ⟨g2.free hl, Gr.neB g2.j hl⟩⟩
    · exact q2.elim
  | _ => exact q2.elim
end
section
variable {δ : DS} {QL : List D → Prop} {QO : OD → Prop} {r : DE} {ks : List (D × D)} {xs : List D} {KK : List (D × D) → Prop}
theorem z_fItemsT : fItemsT r δ QL = r δ fun d => dctD d fun ks => QL (ks.map fun z => D.tup [z.1, z.2]) := propext Iff.rfl
theorem z_oDictD : oDictD r δ QO = r δ fun d => prsQ d QO := propext Iff.rfl
theorem prsQ_of (h : prTs xs = some ks) (hn : ks.Pairwise (fun x y => keqD x.1 y.1 = false)) (hq : QO (.dic true (ks.map fun z => (z.1, OD.sh z.2)))) : prsQ (.lst xs) QO := by
  unfold prsQ
  dsimp only
  rw [h]
  exact ⟨hn, hq⟩
theorem z_dctD : dctD (.dic ks) KK = (keysT ks = true ∧ KK ks) := propext Iff.rfl
end
end DL
namespace DL
open PySem PySem.Spec PyProof.Rows L2 Evl
end DL
namespace DL
open PySem PySem.Spec PyProof.Rows L2 Evl
def objAt (δ : DS) (i : Nat) (π : List Nat) (K : Nat → List OD → Prop) : Prop := match getS δ i π with
  | some (.obj C xs) => K C xs
  | _ => False
theorem objAt_at {δ : DS} {i : Nat} {π : List Nat} {K : Nat → List OD → Prop} (h : objAt δ i π K) : ∃ C xs, getS δ i π = some (.obj C xs) ∧ K C xs := by
  unfold objAt at h
  split at h
  · exact ⟨_, _, by assumption, h⟩
  · exact h.elim
theorem loc_appO {H : Hp} : ∀ (π : List Nat) {v u : V} {p C dx : Addr} {vs : List V} {k : Nat} {w : V}, locV H v π = some u → u = .ref p → H p = some (SlX.SlO p C dx (vs.map some)) → vs[k]? = some w → locV H v (π ++ [k]) = some w
  | [], v, u, p, C, dx, vs, k, w, h, hu, hp, hk => by
    have h : some v = some u := by cases v <;> exact h
    cases h
    subst hu
    show (match H p with | some (.lst vs) => _ | some (.dK vs) => _ | some (.dT vs) => _ | some (.ext φ) => (match (slV p φ)[k]? with | some u => locV H u [] | none => none) | _ => none) = _
    rw [hp]
    show (match (slV p _)[k]? with | some u => locV H u [] | none => none) = _
    rw [slV_of rfl, hk]
    cases w <;> rfl
  | n :: π, v, u, p, C, dx, vs, k, w, h, hu, hp, hk => by
    cases v with
    | ref a =>
      have h : (match H a with | some (.lst vs) => (match vs[n]? with | some u => locV H u π | none => none) | some (.dK vs) => (match vs[n]? with | some u => locV H u.2 π | none => none) | some (.dT vs) => (match vs[n]? with | some u => locV H u.2 π | none => none) | some (.ext φ) => (match (slV a φ)[n]? with | some u => locV H u π | none => none) | _ => none) = some u := h
      show (match H a with | some (.lst vs) => (match vs[n]? with | some u => locV H u (π ++ [k]) | none => none) | some (.dK vs) => (match vs[n]? with | some u => locV H u.2 (π ++ [k]) | none => none) | some (.dT vs) => (match vs[n]? with | some u => locV H u.2 (π ++ [k]) | none => none) | some (.ext φ) => (match (slV a φ)[n]? with | some u => locV H u (π ++ [k]) | none => none) | _ => none) = _
      split at h
      · split at h
        · exact loc_appO π h hu hp hk
        · cases h
      · split at h
        · exact loc_appO π h hu hp hk
        · cases h
      · split at h
        · exact loc_appO π h hu hp hk
        · cases h
      · split at h
        · exact loc_appO π h hu hp hk
        · cases h
      · cases h
    | _ => cases h
/-- o.f as a place -/
def rFld (C m : Nat) (ρ : DR) : DR := fun δ Q => ρ δ fun i π => objAt δ i π fun C' xs => (C' = C ∧ m < xs.length) ∧ Q i (π ++ [m])
section
variable {X : Cx} {B : Bx} {e : Expr} {ρ : DR} {pos : Pos} {p : Addr} {f : Str} {i m C : Nat}
theorem pr_fld (c : SlX.SCls X.K (B.ct C)) (t : SlX.Slot1 X.K (B.ct C) f p m) (he : PR X B e ρ) (hb : attributeBase e f X.env (eval e X.env) = eval e X.env := by rfl) : PR X B (.Attribute e f pos) (rFld C m ρ) := pe_mono (SlX.pe_sl he hb) fun σ H P q => by
  obtain ⟨H0, G, δ, Q, j, st, hr, k⟩ := q
  refine ⟨H0, G, δ, _, j, st, hr, fun i π v0 v G2 H2 q2 g2 h0 hv => ?_⟩
  obtain ⟨C', xs, hx, ⟨rfl, hm⟩, q3⟩ := objAt_at q2
  obtain ⟨fs, a1, a2, a3, a4, _⟩ := (st.gr g2).place hx h0 hv (Gr.refl g2.j)
  cases a1 with
  | @obj q dx _ vs _ f b1 bx b2 bg b3 =>
    have hl : m < vs.length := by rw [b3.len]; exact hm
    have hk : vs[m]? = some vs[m] := List.getElem?_eq_getElem hl
    exact ⟨q, B.ct C', dx, _, vs.map some, m, vs[m], rfl, .inr ⟨b1, bx⟩, c, t, by rw [List.getElem?_map, hk]; rfl, k i _ v0 _ G2 H2 q3 g2 h0 (loc_appO π a4 rfl b1 hk)⟩
end
abbrev FN := List D → (OD → Prop) → Prop
def spN (K : PySem.W.Frag) (B : Bx) (C : Nat) (S : FN) : Sp := fun vs H P _ => ∃ (x dx : Addr) (ws : List V) (G : Hp) (ds : List D) (Q : OD → Prop), vs = .ref x :: ws ∧ H x = some (.ins (B.ct C) dx []) ∧ H dx = some (.own x) ∧ dx ≠ x ∧ G x = none ∧ G dx = none ∧ Jn K B G H ∧ B.nb x ∧ B.nb dx ∧ Dats K B G ws ds ∧ S ds Q ∧
  ∀ o f G2 H2, Q o → Gr K B G (hid2 H x dx) G2 H2 → Own K B G2 H2 (.ref x) o f → f.Nodup → (∀ p ∈ f, hid2 H x dx p = none ∧ B.nb p) → P .non H2
def endN (x : Addr) (Q : OD → Prop) : DEnds where
  nx := fun (δ : DS) => ownO δ[0]? fun v o => v = .ref x ∧ Q o
  rt := fun _ => False
/-- self.f = e, e new and one's own, self being made: self is one's own object from here on -/
def dSelfO (i m : Nat) (C : Nat) (ro : OE) : DTS := fun W δ => ro δ fun o => match δ[i]? with
  | some (some (.nw x C' fs)) => (C' = C ∧ oneNw i δ = true) ∧ ∃ ds : List D, fs = ds.map some ∧ ds.length = m ∧ W.nx (δ.set i (some (.ow (.ref x) (.obj C (ds.map .sh ++ [o])))))
  | _ => False
theorem putS_app {v : V} {us : List V} : SlX.putS us.length v (us.map some) = (us ++ [v]).map some := by
  unfold SlX.putS
  rw [List.length_map, show us.length + 1 - us.length = 1 by omega, List.map_append, List.set_append_right _ _ (by rw [List.length_map]; exact Nat.le_refl _), List.length_map, Nat.sub_self]
  rfl
section
variable {X : Cx} {B : Bx} {e : Expr} {ro : OE} {pos : Pos} {p : Addr} {f : Str} {i m C : Nat}
theorem psd_selfO {o : Expr} {pos' : Pos} (c : SlX.SCls X.K (B.ct C)) (t : SlX.Slot1 X.K (B.ct C) f p m) (ho : PE X o (tVar i)) (he : PO X B e ro) (hs : swapsWith e (some (.Attribute o f pos')) pos.line X.env = pure false := by rfl) : PSD X B (.Assign [.Attribute o f pos'] e pos) (dSelfO i m C ro) := ps_mono (SlX.ps_sl ho he hs) fun E σ H q => by
  obtain ⟨G0, H0, G, δ, W, g, s, h, k⟩ := q
  refine ⟨H0, G, δ, _, g.j, s, h, fun o v f' G2 H2 q0 g2 h2 f2 => ?_⟩
  have q2 : (match δ[i]? with | some (some (.nw x C' fs)) => (C' = C ∧ oneNw i δ = true) ∧ ∃ ds : List D, fs = ds.map some ∧ ds.length = m ∧ W.nx (δ.set i (some (.ow (.ref x) (.obj C (ds.map .sh ++ [o]))))) | _ => False) := q0
  clear q0
  cases h1 : δ[i]? with
  | none => rw [h1] at q2; exact q2.elim
  | some z =>
    cases z with
    | none => rw [h1] at q2; exact q2.elim
    | some y =>
      cases y with
      | sh _ => rw [h1] at q2; exact q2.elim
      | ow _ _ => rw [h1] at q2; exact q2.elim
      | nw x C' fs =>
        rw [h1] at q2
        obtain ⟨⟨rfl, one⟩, ds, rfl, rfl, q2⟩ := q2
        obtain ⟨F, y⟩ := s.ex
        have y2 := y.gr g2
        obtain ⟨dx, vs, a1, n, hF⟩ := StF.nw y2 h1
        obtain ⟨us, rfl, hus⟩ := flds_all n.fl
        have lus : us.length = ds.length := hus.len
        refine ⟨.ref x, a1, x, _, dx, p, us.map some, ds.length, rfl, n.sl, c, t, ?_⟩
        rw [← lus, putS_app]
        have nf : ∀ q ∈ f', q ≠ x ∧ q ≠ dx := fun q hq => by
          have hm := (f2.2 q hq).1
          have nm := (y.get h1)
          obtain ⟨ov, e1, so⟩ := nm
          rw [hF] at so
          exact ⟨fun z => (so.at x (by simp)).1.ne (z ▸ hm), fun z => (so.at dx (by simp)).1.ne (z ▸ hm)⟩
        have hw : Own X.K B G2 (SlX.slH H2 x (B.ct C') dx ((us ++ [v]).map some)) (.ref x) (.obj C' (ds.map .sh ++ [o])) (x :: dx :: f') := by
          have o1 : Own X.K B G2 (SlX.slH H2 x (B.ct C') dx ((us ++ [v]).map some)) v o f' := h2.keep (Ex.refl _) fun q hq => ⟨SlX.slH_ne (nf q hq).1 (nf q hq).2, rfl⟩
          have o2 := (owns_sh (K := X.K) (B := B) (G := G2) (H := SlX.slH H2 x (B.ct C') dx ((us ++ [v]).map some)) hus).append (Owns.cons o1 .nil)
          rw [List.append_nil, List.nil_append] at o2
          refine .obj (dx := dx) (by unfold SlX.slH; exact upd_same) (by unfold SlX.slH; rw [upd_ne n.ne, upd_same]) n.gx n.gd o2
        have nd : (x :: dx :: f').Nodup := List.nodup_cons.mpr ⟨fun z => by
          rcases List.mem_cons.mp z with z | z
          · exact n.ne z.symm
          · exact (nf x z).1 rfl, List.nodup_cons.mpr ⟨fun z => (nf dx z).2 rfl, f2.1⟩⟩
        have gg := g.trans g2
        have z := y.put (i := i) (List.getElem?_eq_some_iff.mp a1).1 g2.ex (H2 := SlX.slH H2 x (B.ct C') dx ((us ++ [v]).map some)) (fun q mq nq hq => ?_) (.ow hw nd fun q hq => ?_) fun q hq => ?_
        · rw [set_same a1] at z
          refine k.nx _ _ G2 _ q2 ?_ g2.ex ⟨_, z⟩
          exact (gg.own n.hd n.gd n.bd).own n.hx n.gx n.bx
        · rw [hF] at hq
          have kq := g2.kept (f := [q]) (fun r hr => by cases List.mem_singleton.mp hr; exact ⟨mq, nq⟩) q (by simp)
          exact ⟨(SlX.slH_ne (fun e => hq (by rw [e]; simp)) (fun e => hq (by rw [e]; simp))).trans kq.1, kq.2⟩
        · rcases List.mem_cons.mp hq with rfl | hq
          · exact ⟨n.hx, n.bx⟩
          · rcases List.mem_cons.mp hq with rfl | hq
            · exact ⟨n.hd, n.bd⟩
            · exact ⟨g.free (f2.2 q hq).1, (f2.2 q hq).2⟩
        · rcases List.mem_cons.mp hq with rfl | hq
          · exact .inr (by rw [hF]; simp)
          · rcases List.mem_cons.mp hq with rfl | hq
            · exact .inr (by rw [hF]; simp)
            · exact .inl (f2.2 q hq).1
end
end DL
namespace DL
open PySem PySem.Spec PyProof.Rows L2 Evl
section
variable {P : Program} {w : World} {K : PySem.W.Frag} {mg : Str → Option Value} {base : Heap}
theorem init_liftN {N : List Str} {B : Bx} {C : Nat} {S : FN} {t : DTS} {vs : List V} {H : Hp} {Q : VK} {E : XK} (hN : 1 ≤ N.length) (vc : ∀ x ds Q, S ds Q → t (endN x Q) (startI N.length x C ds)) (h : spN K B C S vs H Q E) :
    liftS K B t { nx := fun _ H' => Q .non H', rt := Q } (L2.start N vs) H := by
  obtain ⟨x, dx, ws, G, ds, R, rfl, hx, hdx, ne, gx, gd, j, nbx, nbd, hd, hs, kk⟩ := h
  have g0 : Gr K B G (hid2 H x dx) G H := by
    refine ⟨Ex.refl G, fun a o _ h => ?_, j, fun _ _ => rfl⟩
    unfold hid2 at h
    split at h
    · cases h
    · exact h
  have s0 : StOk K B (hid2 H x dx) G H (L2.start N (.ref x :: ws)) (startI N.length x C ds) := by
    have base_ := start_ok (K := K) (B := B) (H0 := hid2 H x dx) (H := H) (N := N) (vs := .ref x :: ws) (ds := .bag :: ds) (G := G)
    have len0 : (L2.start N (.ref x :: ws)).length = (startI N.length x C ds).length := by
      unfold L2.start startI
      simp only [List.length_append, List.length_map, List.length_cons, List.length_replicate]
      rw [hd.len]
      omega
    have at0 : (L2.start N (.ref x :: ws))[0]? = some (some (.ref x)) := rfl
    have rest : ∀ (i : Nat) (y : SD), (startI N.length x C ds)[i + 1]? = some (some y) → ∃ d v, y = .sh d ∧ (L2.start N (.ref x :: ws))[i + 1]? = some (some v) ∧ Dat K B G v d := fun i y e => by
      have e : (ds.map (fun d => some (SD.sh d)) ++ List.replicate (N.length - 1 - ds.length) none)[i]? = some (some y) := e
      by_cases hi : i < ds.length
      · rw [List.getElem?_append_left (by rw [List.length_map]; exact hi), List.getElem?_map] at e
        cases hdd : ds[i]? with
        | none => rw [hdd] at e; cases e
        | some d' =>
          rw [hdd] at e
          cases e
          obtain ⟨v, h1, h2⟩ := hd.get hdd
          refine ⟨d', v, rfl, ?_, h2⟩
          show (ws.map some ++ List.replicate (N.length - (ws.length + 1)) none)[i]? = _
          rw [List.getElem?_append_left (by rw [List.length_map, hd.len]; exact hi), List.getElem?_map, h1]
          rfl
      · rw [List.getElem?_append_right (by rw [List.length_map]; omega), List.getElem?_replicate] at e
        split at e <;> cases e
    have none0 : ∀ (i : Nat) (od : Option SD), (startI N.length x C ds)[i + 1]? = some od → od = none ∨ ∃ y, od = some y := fun i od _ => by cases od with | none => exact .inl rfl | some y => exact .inr ⟨y, rfl⟩
    refine ⟨fun i => if i = 0 then [x, dx] else [], len0, fun i ov od e1 e2 => ?_, fun i j' _ _ hij p hp hq => ?_⟩
    · cases i with
      | zero =>
        rw [at0] at e1
        cases e1
        cases e2
        rw [if_pos rfl]
        exact .nw ⟨.inl ⟨hx, rfl⟩, .inl hdx, ne, gx, gd, by unfold hid2; rw [if_pos (.inl rfl)], by unfold hid2; rw [if_pos (.inr rfl)], nbx, nbd, rfl, fun i d e => nomatch e⟩
      | succ i =>
        rw [if_neg (Nat.succ_ne_zero i)]
        rcases none0 i od e2 with rfl | ⟨y, rfl⟩
        · exact .no
        · obtain ⟨d', v, rfl, h2, h3⟩ := rest i y e2
          rw [h2] at e1
          cases e1
          exact .sh h3
    · by_cases h1 : i = 0
      · have h2 : j' ≠ 0 := fun z => hij (h1.trans z.symm)
        rw [if_neg h2] at hq
        exact nomatch hq
      · rw [if_neg h1] at hp
        exact nomatch hp
  refine ⟨G, hid2 H x dx, G, startI N.length x C ds, endN x R, g0, s0, vc x ds R hs, ⟨?_, ?_, ?_, ?_, ?_, ?_, ?_⟩⟩
  · intro σ δ G2 H2 q g _ s2
    have q : ownO δ[0]? fun v o => v = .ref x ∧ R o := q
    unfold ownO at q
    split at q
    · rename_i v o h1
      obtain ⟨rfl, q⟩ := q
      obtain ⟨F, y⟩ := s2.ex
      obtain ⟨e1, e2, e3, e4⟩ := y.ow h1
      exact kk o (F 0) G2 H2 q g e2 e3 e4
    · exact q.elim
  · exact fun σ δ G2 H2 q g _ s2 => q.elim
  · exact fun σ δ G2 H2 q g _ s2 => q.elim
  · exact fun d v G2 H2 q g _ hd => q.elim
  · exact fun o v f G2 H2 q g _ hd => q.elim
  · exact fun σ' δ'' d v G2 H2 q => q.elim
  · exact fun q' vs' os f G2 H2 q => q.elim
theorem fn_initN {x qual : Str} {st : Stmt} {f : Addr} {fd : FuncData} {N ps : List Str} {k : Nat} {B : Bx} {C : Nat} {S : FN} {t : DTS} (F : Fun K x qual st f fd) (Sc : FnScope N ps (defScope st)) (len : ∀ ds Q, S ds Q → ds.length + 1 = ps.length) (hN : 1 ≤ N.length)
    (hbody : ∀ (cdv : Value) (A : Around) (outer : List Env) (s : Shared) (H : Hp) (E : XK), Room k (A.deeper (envOfC qual (defScope st) s.heap.objs.size f cdv)) → PSsD (cxOf CX0 P w K mg base N qual (defScope st) f cdv A outer s H E).nox B (defBody st) t)
    (vc : ∀ x ds Q, S ds Q → t (endN x Q) (startI N.length x C ds)) : FnOk P w K mg base CX0 (k + 1) f fd ps (spN K B C S) := by
  refine F.ok Sc (fun vs H Q E h => ?_) (fun cdv A outer s H vs Q E hr h => ⟨_, hbody cdv A outer s H E hr, init_liftN hN vc h⟩)
  obtain ⟨x, dx, ws, G, ds, R, rfl, _, _, _, _, _, _, _, _, hd, hs, _⟩ := h
  rw [List.length_cons, hd.len]
  exact len ds R hs
end
def oMake (S : FN) (ra : DA) : OE := fun δ Q => ra δ fun ds => S ds Q
section
variable {X : Cx} {B : Bx} {e : Expr} {es : List Expr} {pos : Pos} {g : Addr} {k C : Nat} {x : Str} {ra : DA} {S : FN}
theorem make_core {H0 G H : Hp} {j : Jn X.K B G H} {ds : List D} {vs : List V} {Q : OD → Prop} {Y : VK} (h2 : Dats X.K B G vs ds) (q2 : S ds Q) (k : ∀ o v f G2 H2, Q o → Gr X.K B G H G2 H2 → Own X.K B G2 H2 v o f → Fresh B H f → Y v H2) :
    ∀ y dx, H y = none → H dx = none → dx ≠ y → spN X.K B C S (.ref y :: vs) (upd (upd H dx (.own y)) y (.ins (B.ct C) dx [])) (fun u H' => u = .non ∧ Y (.ref y) H') E0 := fun y dx hy hdx ne => by
  have gy : G y = none := fresh_back j.ex hy
  have gd : G dx = none := fresh_back j.ex hdx
  have j1 : Jn X.K B G (upd (upd H dx (.own y)) y (.ins (B.ct C) dx [])) := by
    have a := Gr.new0 (o := .own y) j hdx
    exact (Gr.new0 (o := .ins (B.ct C) dx []) a.j (by rw [upd_ne (Ne.symm ne)]; exact hy)).j
  have eh : hid2 (upd (upd H dx (.own y)) y (.ins (B.ct C) dx [])) y dx = H := by
    funext b
    unfold hid2
    by_cases h1 : b = y
    · subst h1; rw [if_pos (.inl rfl), hy]
    · by_cases h3 : b = dx
      · subst h3; rw [if_pos (.inr rfl), hdx]
      · rw [if_neg (fun z => z.elim h1 h3), upd_ne h1, upd_ne h3]
  refine ⟨y, dx, vs, G, ds, _, rfl, upd_same, by rw [upd_ne ne, upd_same], ne, gy, gd, j1, Gr.neB j hy, Gr.neB j hdx, h2, q2, fun o f G3 H3 q3 g3 z1 z2 z3 => ⟨rfl, ?_⟩⟩
  rw [eh] at g3 z3
  exact k o _ f G3 H3 q3 g3 z1 ⟨z2, z3⟩
theorem po_make0 {fp : Pos} (M : Mk X.K (B.ct C) g) (F : FnR X.prog X.w X.K X.mg X.base CX0 k g (spN X.K B C S)) (hr : Room (k + 1) X.A) (hg : Gl X x) (hm : X.mg x = some (.ref (B.ct C))) (hdb : (x == ("__debug__" : Str)) = false := by decide) :
    PO X B (.Call (.Name x fp) [] [] pos) (oMake S dNil) := pe_mono (pe_makeR0 (E := E0) M F hr hg hm pass0 hdb) fun σ H P q => by
  obtain ⟨H0, G, δ, Q, j, st, q2, k⟩ := q
  exact fun y dx hy hdx ne => make_core (H0 := H0) (j := j) .nil q2 k y dx hy hdx ne
end
end DL
namespace DL
open PySem PySem.Spec PyProof.Rows L2 Evl
abbrev FM := List D → OD → List D → (D → OD → Prop) → Prop
def spM (K : PySem.W.Frag) (B : Bx) (S : FM) : Sp := fun vs H P _ => ∃ (G : Hp) (us1 us2 : List V) (ds1 ds2 : List D) (v : V) (o : OD) (f : List Addr) (Q : D → OD → Prop), Jn K B G H ∧ vs = us1 ++ v :: us2 ∧ Dats K B G us1 ds1 ∧ Dats K B G us2 ds2 ∧ Own K B G H v o f ∧ f.Nodup ∧ (∀ p ∈ f, B.nb p) ∧ S ds1 o ds2 Q ∧
  ∀ d w o' f' G2 H2, Q d o' → Gr K B G (hidF H f) G2 H2 → Dat K B G2 w d → Own K B G2 H2 v o' f' → f'.Nodup → (∀ p ∈ f', hidF H f p = none ∧ B.nb p) → P w H2
def endM (j : Nat) (v : V) (Q : D → OD → Prop) : DEnds where
  nx := fun δ => ownO δ[j]? fun v' o' => v' = v ∧ Q .non o'
  rt := fun _ => False
  rs := fun δ d => ownO δ[j]? fun v' o' => v' = v ∧ Q d o'
def dRetS (r : DE) : DTS := fun W δ => r δ fun d => W.rs δ d
section
variable {P : Program} {w : World} {K : PySem.W.Frag} {mg : Str → Option Value} {base : Heap}
theorem fn_m {x qual : Str} {st : Stmt} {f : Addr} {fd : FuncData} {N ps : List Str} {k : Nat} {B : Bx} {S : FM} {t : DTS} (F : Fun K x qual st f fd) (Sc : FnScope N ps (defScope st)) (len : ∀ ds1 o ds2 Q, S ds1 o ds2 Q → ds1.length + (ds2.length + 1) = ps.length)
    (hbody : ∀ (cdv : Value) (A : Around) (outer : List Env) (s : Shared) (H : Hp) (E : XK), Room k (A.deeper (envOfC qual (defScope st) s.heap.objs.size f cdv)) → PSsD (cxOf CX0 P w K mg base N qual (defScope st) f cdv A outer s H E).nox B (defBody st) t)
    (vc : ∀ ds1 o ds2 v Q, S ds1 o ds2 Q → t (endM ds1.length v Q) (startC N.length ds1 v o ds2)) : FnOk P w K mg base CX0 (k + 1) f fd ps (spM K B S) := by
  refine F.ok Sc (fun vs H Q E h => ?_) (fun cdv A outer s H vs Q E hr h => ⟨_, hbody cdv A outer s H E hr, ?_⟩)
  · obtain ⟨G, us1, us2, ds1, ds2, v, o, f, R, j, rfl, h1, h2, _, _, _, hs, _⟩ := h
    rw [List.length_append, List.length_cons, h1.len, h2.len]
    exact len ds1 o ds2 R hs
  · obtain ⟨G, us1, us2, ds1, ds2, v, o, f, R, j, rfl, h1, h2, ho, nd, nb, hs, kk⟩ := h
    have g0 : Gr K B G (hidF H f) G H := ⟨Ex.refl G, fun a o _ h => hidF_le h, j, fun _ _ => rfl⟩
    have key : ∀ σ δ d w G2 H2, (ownO δ[ds1.length]? fun v' o' => v' = v ∧ R d o') → Gr K B G (hidF H f) G2 H2 → StOk K B (hidF H f) G2 H2 σ δ → Dat K B G2 w d → Q w H2 := fun σ δ d w G2 H2 q g s2 hd => by
      unfold ownO at q
      split at q
      · rename_i v' o' e
        obtain ⟨rfl, q⟩ := q
        obtain ⟨F', y⟩ := s2.ex
        obtain ⟨e1, e2, e3, e4⟩ := y.ow e
        exact kk d w o' (F' ds1.length) G2 H2 q g hd e2 e3 e4
      · exact q.elim
    refine ⟨G, hidF H f, G, startC N.length ds1 v o ds2, _, g0, startC_ok h1 h2 ho nd (fun p hp => ⟨hidF_in hp, nb p hp⟩), vc ds1 o ds2 v R hs, ⟨?_, ?_, ?_, ?_, ?_, ?_, ?_⟩⟩
    · exact fun σ δ G2 H2 q g _ s2 => key σ δ .non .non G2 H2 q g s2 .non
    · exact fun σ δ G2 H2 q g _ s2 => q.elim
    · exact fun σ δ G2 H2 q g _ s2 => q.elim
    · exact fun d v G2 H2 q g _ hd => q.elim
    · exact fun o v f G2 H2 q => q.elim
    · exact fun σ δ d w G2 H2 q g _ s2 hd => key σ δ d w G2 H2 q g s2 hd
    · exact fun q' vs' os f G2 H2 q => q.elim
end
section
variable {X : Cx} {B : Bx} {e : Expr} {r : DE} {pos : Pos}
theorem psd_retS (h : PD X B e r) : PSD X B (.Return (some e) pos) (dRetS r) := ps_mono (ps_ret h) fun E σ H q => by
  obtain ⟨G0, H0, G, δ, W, g, s, h, k⟩ := q
  exact at_stmt g s h fun d v G2 H2 q2 g2 e2 s2 h2 => k.rs σ δ d v G2 H2 q2 g2 e2 s2 h2
end
abbrev DM := DS → (D → DS → Prop) → Prop
abbrev DMT := DS → (Bool → DS → Prop) → Prop
def liftM (K : PySem.W.Frag) (B : Bx) (r : DM) : TE := fun σ H P => ∃ (G0 H0 G : Hp) (δ : DS) (Q : D → DS → Prop), Gr K B G0 H0 G H ∧ StOk K B H0 G H σ δ ∧ r δ Q ∧ ∀ d v δ' G2 H2, Q d δ' → Gr K B G0 H0 G2 H2 → Ex G G2 → StOk K B H0 G2 H2 σ δ' → Dat K B G2 v d → P v H2
def liftMT (K : PySem.W.Frag) (B : Bx) (r : DMT) : TT := fun σ H P => ∃ (G0 H0 G : Hp) (δ : DS) (Q : Bool → DS → Prop), Gr K B G0 H0 G H ∧ StOk K B H0 G H σ δ ∧ r δ Q ∧ ∀ b δ' G2 H2, Q b δ' → Gr K B G0 H0 G2 H2 → Ex G G2 → StOk K B H0 G2 H2 σ δ' → P b H2
abbrev PM (X : Cx) (B : Bx) (e : Expr) (r : DM) : Prop := PE X e (liftM X.K B r)
abbrev PMT (X : Cx) (B : Bx) (e : Expr) (r : DMT) : Prop := PT X e (liftMT X.K B r)
def objC (C : Nat) (o : OD) : Prop := match o with
  | .obj C' _ => C' = C
  | _ => False
def shS (x : Option (Option SD)) (K : D → Prop) : Prop := match x with
  | some (some (.sh d)) => K d
  | _ => False
def mD (r : DE) : DM := fun δ Q => r δ fun d => Q d δ
def mMeth (j C : Nat) (S : FM) (ra : DA) : DM := fun δ Q => ownO δ[j]? fun v o => objC C o ∧ ra δ fun ds => S [] o ds fun d o' => Q d (δ.set j (some (.ow v o')))
def mtCmp (o : O2) (ra : DM) (rb : DE) : DMT := fun δ Q => ra δ fun x δ1 => rb δ1 fun y => o x y fun d => blD d fun b => Q b δ1
def ifM (b : Bool) (ra rb : DM) : DM := fun δ Q => if b = true then ra δ Q else rb δ Q
def mIfe (t : DMT) (ra rb : DM) : DM := fun δ Q => t δ fun b δ1 => ifM b ra rb δ1 Q
def dSetM (i : Nat) (r : DM) : DTS := fun W δ => r δ fun d δ1 => W.nx (δ1.set i (some (.sh d)))
def dAugM (o : O2) (i : Nat) (r : DM) : DTS := fun W δ => shS δ[i]? fun x => r δ fun y δ1 => o x y fun z => W.nx (δ1.set i (some (.sh z)))
section
variable {X : Cx} {B : Bx} {e a b o : Expr} {es : List Expr} {r rb : DE} {ra : DA} {rm rm2 : DM} {t : DMT} {pos : Pos} {m : Str} {g : Addr} {k j C i : Nat} {S : FM}
theorem pm_d (h : PD X B e r) : PM X B e (mD r) := pe_mono h fun σ H P q => by
  obtain ⟨G0, H0, G, δ, Q, g, st, hr, k⟩ := q
  exact ⟨H0, G, δ, _, g.j, st, hr, fun d v G2 H2 q2 g2 h2 => k d v δ G2 H2 q2 (g.trans g2) g2.ex (st.gr g2) h2⟩
theorem meth_core {G0 H0 G G2 H H2 : Hp} {σ : L2.St} {δ : DS} {v : V} {o : OD} {ds : List D} {ws : List V} {Q : D → DS → Prop} {P : VK} (g : Gr X.K B G0 H0 G H) (st : StOk X.K B H0 G H σ δ) (h1 : δ[j]? = some (some (.ow v o))) (g2 : Gr X.K B G H G2 H2) (hd : Dats X.K B G2 ws ds)
    (hs : S [] o ds fun d o' => Q d (δ.set j (some (.ow v o')))) (k : ∀ d v δ' G2 H2, Q d δ' → Gr X.K B G0 H0 G2 H2 → Ex G G2 → StOk X.K B H0 G2 H2 σ δ' → Dat X.K B G2 v d → P v H2) : spM X.K B S (v :: ws) H2 P E0 := by
  obtain ⟨Fo, y0⟩ := (st.gr g2).ex
  obtain ⟨e1, e2, e3, e4⟩ := y0.ow h1
  refine ⟨G2, [], ws, [], ds, v, o, Fo j, _, g2.j, rfl, .nil, hd, e2, e3, fun p hp => (e4 p hp).2, hs, fun d w o' f' G3 H3 q3 g3 hd3 ho3 nd3 hf3 => ?_⟩
  have gg := g.trans g2
  have nh : ∀ {a : Addr} {o : HO}, H0 a = some o → a ∉ Fo j := fun h w => by rw [(e4 _ w).1] at h; cases h
  have g6 : Gr X.K B G0 H0 G3 H3 := by
    refine ⟨gg.ex.trans g3.ex, fun a o n ha => g3.kp a o n (by rw [hidF_ne (nh ha)]; exact gg.kp a o n ha), g3.j, fun a m => ?_⟩
    have ap : a ∉ Fo j := by
      obtain ⟨o, ho, _⟩ := m
      exact nh ho
    have m2 := gg.mu m
    rw [g3.old a (by obtain ⟨o, ho, no⟩ := m2; exact ⟨o, by rw [hidF_ne ap]; exact ho, no⟩), gg.old a m]
  have hf4 : ∀ p ∈ f', (H2 p = none ∨ p ∈ Fo j) ∧ H0 p = none ∧ B.nb p := fun p hp => by
    obtain ⟨z1, z2⟩ := hf3 p hp
    by_cases hm : p ∈ Fo j
    · exact ⟨.inr hm, (e4 p hm).1, z2⟩
    · rw [hidF_ne hm] at z1
      exact ⟨.inl z1, gg.free z1, z2⟩
  have y1 := y0.put (i := j) (ov := some v) (od := some (.ow v o')) (fi := f') (List.getElem?_eq_some_iff.mp e1).1 g3.ex (H2 := H3) (fun a m n ha => by
    obtain ⟨o, ho, no⟩ := m
    exact ⟨(g3.keep a o n (by rw [hidF_ne ha]; exact ho)).trans ho.symm, g3.old a ⟨o, by rw [hidF_ne ha]; exact ho, no⟩⟩) (.ow ho3 nd3 fun p hp => (hf4 p hp).2) fun p hp => (hf4 p hp).1
  rw [set_same e1] at y1
  exact k d w _ G3 H3 q3 g6 (g2.ex.trans g3.ex) ⟨_, y1⟩ hd3
theorem pm_meth {pl : Sem Bool} {apos : Pos} (c : SlX.SCls X.K (B.ct C)) (hm : Meth X.K (B.ct C) m g) (F : FnR X.prog X.w X.K X.mg X.base CX0 k g (spM X.K B S)) (hr : Room k X.A) (he : PE X o (tVar j)) (ha : PAD X B (e :: es) ra)
    (hst : starEach (e :: es) X.env = (false, eval e X.env) :: starEach es X.env := by rfl) (hpl : (backTo pos (starEach es X.env)).any (·.1) = false := by rfl)
    (ht : eval (.Call (.Attribute o m apos) (e :: es) [] pos) X.env = (do let ov ← eval o X.env; standAt apos.atName; let (f, first) ← holding [ov] (getMethod ov m pl); callWith pos f first (backTo pos (starEach (e :: es) X.env)) (backToKw pos (keywordEach [] X.env))) := by rfl) :
    PM X B (.Call (.Attribute o m apos) (e :: es) [] pos) (mMeth j C S ra) := pe_mono (SlX.pe_methSl (E := E0) he c hm F hr pass0 ha hst hpl ht) fun σ H P q => by
  obtain ⟨G0, H0, G, δ, Q, g, st, h9, kk⟩ := q
  have hr : ownO δ[j]? (fun v o => objC C o ∧ ra δ fun ds => S [] o ds fun d o' => Q d (δ.set j (some (.ow v o')))) := h9
  clear h9
  unfold ownO at hr
  split at hr
  · rename_i v o h1
    obtain ⟨hc, hr⟩ := hr
    obtain ⟨Fo, y0⟩ := st.ex
    obtain ⟨e1, e2, e3, e4⟩ := y0.ow h1
    refine ⟨v, e1, ?_⟩
    generalize hF : Fo j = f at e2
    cases e2 with
    | @obj p dx C' vs xs f b1 bx b2 bg b3 =>
      have hc : C' = C := hc
      subst hc
      refine ⟨p, dx, vs.map some, rfl, .inr ⟨b1, bx⟩, H0, G, δ, _, g.j, st, hr, fun ds ws G2 H2 q2 g2 h2 => ?_⟩
      exact meth_core g st h1 g2 h2 q2 kk
    | _ => exact hc.elim
  · exact hr.elim
theorem pmt_cmp {op : CmpOp} {o2 : O2} (h : OpR X (compareOp op) (rLift X.K B o2)) (ha : PM X B a rm) (hb : PD X B b rb) (hm : behindInMarks op b = false) : PMT X B (.Compare a [op] [b] pos) (mtCmp o2 rm rb) := pt_mono (pt_cmpR h ha hb hm) fun σ H P q => by
  obtain ⟨G0, H0, G, δ, Q, g, st, hr, k⟩ := q
  refine ⟨G0, H0, G, δ, _, g, st, hr, fun d v δ' G2 H2 q2 g2 x2 s2 hd => ?_⟩
  refine ⟨H0, G2, δ', _, g2.j, s2, q2, fun e u G3 H3 q3 g3 h3 => ?_⟩
  refine ⟨G3, d, e, _, g3.j, hd.mono g3.ex, h3, q3, fun d' v' G4 H4 q4 g4 h4 => ?_⟩
  cases h4 with
  | bl b => exact ⟨b, rfl, k b δ' G4 H4 q4 ((g2.trans g3).trans g4) (x2.trans (g3.ex.trans g4.ex)) ((s2.gr g3).gr g4)⟩
  | _ => exact q4.elim
theorem pm_ife {c : Expr} (hc : PMT X B c t) (ha : PM X B a rm) (hb : PM X B b rm2) : PM X B (.IfExp c a b pos) (mIfe t rm rm2) := pe_mono (pe_ifExp hc ha hb) fun σ H P q => by
  obtain ⟨G0, H0, G, δ, Q, g, st, hr, k⟩ := q
  refine ⟨G0, H0, G, δ, _, g, st, hr, fun b δ' G2 H2 q2 g2 x2 s2 => ?_⟩
  have q2 : if b = true then rm δ' Q else rm2 δ' Q := q2
  cases b with
  | true => exact ⟨G0, H0, G2, δ', Q, g2, s2, by simpa using q2, fun d v δ3 G3 H3 q3 g3 x3 => k d v δ3 G3 H3 q3 g3 (x2.trans x3)⟩
  | false => exact ⟨G0, H0, G2, δ', Q, g2, s2, by simpa using q2, fun d v δ3 G3 H3 q3 g3 x3 => k d v δ3 G3 H3 q3 g3 (x2.trans x3)⟩
theorem psd_setM {x : Str} {pos' : Pos} (hN : X.N.Nodup) (hi : X.N[i]? = some x) (hx : Loc X.env.scope x) (he : PM X B e rm) (hs : swapsWith e (some (.Name x pos')) pos.line X.env = pure false := by rfl) (hf : X.fn x = true ∨ X.env.scope.names.lookup x = some .local := by first | exact .inl rfl | exact .inr rfl | assumption) :
    PSD X B (.Assign [.Name x pos'] e pos) (dSetM i rm) := ps_mono (ps_set hN hi hx he hs hf) fun E σ H q => by
  obtain ⟨G0, H0, G, δ, W, g, s, h, k⟩ := q
  exact ⟨G0, H0, G, δ, _, g, s, h, fun d v δ' G2 H2 q2 g2 x2 s2 hd => k.nx _ _ G2 H2 q2 g2 x2 (s2.set hd)⟩
theorem psd_augM {x : Str} {op : Operator} {o2 : O2} {pos' : Pos} (hN : X.N.Nodup) (hi : X.N[i]? = some x) (hx : Loc X.env.scope x) (ho : OpR X (inplaceOp op) (rLift X.K B o2)) (he : PM X B e rm) (hf : X.fn x = true ∨ X.env.scope.names.lookup x = some .local := by first | exact .inl rfl | exact .inr rfl | assumption) :
    PSD X B (.AugAssign (.Name x pos') op e pos) (dAugM o2 i rm) := ps_mono (ps_aug hN hi hx he ho hf) fun E σ H q => by
  obtain ⟨G0, H0, G, δ, W, g0, st, h, k⟩ := q
  unfold dAugM shS at h
  split at h
  · rename_i d h1
    have h : rm δ (fun y δ1 => o2 d y fun z => W.nx (δ1.set i (some (.sh z)))) := h
    obtain ⟨v, hv, hd⟩ := st.sh i d h1
    refine ⟨v, hv, G0, H0, G, δ, _, g0, st, h, fun y u δ' G2 H2 q2 g2 x2 s2 h2 => ?_⟩
    refine ⟨G2, d, y, _, g2.j, hd.mono x2, h2, q2, fun z w G3 H3 q3 g3 h3 => ?_⟩
    exact k.nx _ _ _ _ q3 (g2.trans g3) (x2.trans g3.ex) ((s2.gr g3).set h3)
  · exact h.elim
end
section
variable {r rb : DE} {ra : DA} {rm rm2 : DM} {t : DMT} {j C i : Nat} {S : FM} {δ : DS} {W : DEnds} {Q : D → DS → Prop} {Q2 : Bool → DS → Prop} {o : O2} {v : V} {od : OD} {xs : List OD} {d : D} {K : D → Prop}
theorem z_retS : dRetS r W δ = r δ fun d => W.rs δ d := propext Iff.rfl
theorem z_mD : mD r δ Q = r δ fun d => Q d δ := propext Iff.rfl
theorem z_mMeth : mMeth j C S ra δ Q = ownO δ[j]? fun v o => objC C o ∧ ra δ fun ds => S [] o ds fun d o' => Q d (δ.set j (some (.ow v o'))) := propext Iff.rfl
theorem z_mtCmp : mtCmp o rm rb δ Q2 = rm δ fun x δ1 => rb δ1 fun y => o x y fun d => blD d fun b => Q2 b δ1 := propext Iff.rfl
theorem z_mIfe : mIfe t rm rm2 δ Q = t δ fun b δ1 => ifM b rm rm2 δ1 Q := propext Iff.rfl
theorem z_ifT : ifM true rm rm2 δ Q = rm δ Q := if_pos rfl
theorem z_ifF : ifM false rm rm2 δ Q = rm2 δ Q := if_neg (by decide)
theorem z_setM : dSetM i rm W δ = rm δ fun d δ1 => W.nx (δ1.set i (some (.sh d))) := propext Iff.rfl
theorem z_augM : dAugM o i rm W δ = shS δ[i]? fun x => rm δ fun y δ1 => o x y fun z => W.nx (δ1.set i (some (.sh z))) := propext Iff.rfl
theorem z_shS : shS (some (some (.sh d))) K = K d := propext Iff.rfl
theorem z_objC : objC C (.obj C xs) = True := by unfold objC; simp
end
end DL
namespace DL
open PySem PySem.Spec PyProof.Rows L2 Evl
abbrev FP := List D → (List OD → Prop) → Prop
def liftTp (K : PySem.W.Frag) (B : Bx) (r : OA) : TE := fun σ H P => ∃ (H0 G : Hp) (δ : DS) (Q : List OD → Prop), Jn K B G H ∧ StOk K B H0 G H σ δ ∧ r δ Q ∧ ∀ q vs os f G2 H2, Q os → Gr K B G H G2 H2 → H2 q = some (.tup vs) → Owns K B G2 H2 vs os f → Fresh B H f → P (.ref q) H2
abbrev PP (X : Cx) (B : Bx) (e : Expr) (r : OA) : Prop := PE X e (liftTp X.K B r)
def spP (K : PySem.W.Frag) (B : Bx) (S : FP) : Sp := fun vs H P _ => ∃ (G : Hp) (ds : List D) (Q : List OD → Prop), Jn K B G H ∧ Dats K B G vs ds ∧ S ds Q ∧ ∀ q ws os f G2 H2, Q os → Gr K B G H G2 H2 → H2 q = some (.tup ws) → Owns K B G2 H2 ws os f → Fresh B H f → P (.ref q) H2
def endP (Q : List OD → Prop) : DEnds where
  nx := fun _ => False
  rt := fun _ => False
  rp := Q
section
variable {P : Program} {w : World} {K : PySem.W.Frag} {mg : Str → Option Value} {base : Heap}
theorem fn_p {x qual : Str} {st : Stmt} {f : Addr} {fd : FuncData} {N ps : List Str} {k : Nat} {B : Bx} {S : FP} {t : DTS} (F : Fun K x qual st f fd) (Sc : FnScope N ps (defScope st)) (len : ∀ ds Q, S ds Q → ds.length = ps.length)
    (hbody : ∀ (cdv : Value) (A : Around) (outer : List Env) (s : Shared) (H : Hp) (E : XK), Room k (A.deeper (envOfC qual (defScope st) s.heap.objs.size f cdv)) → PSsD (cxOf CX0 P w K mg base N qual (defScope st) f cdv A outer s H E).nox B (defBody st) t)
    (vc : ∀ ds Q, S ds Q → t (endP Q) (startD N.length ds)) : FnOk P w K mg base CX0 (k + 1) f fd ps (spP K B S) := by
  refine F.ok Sc (fun vs H Q E h => ?_) (fun cdv A outer s H vs Q E hr h => ⟨_, hbody cdv A outer s H E hr, ?_⟩)
  · obtain ⟨G, ds, R, j, hd, hs, _⟩ := h
    rw [hd.len]
    exact len ds R hs
  · obtain ⟨G, ds, R, j, hd, hs, kk⟩ := h
    refine ⟨G, H, G, startD N.length ds, _, Gr.refl j, start_ok hd, vc ds R hs, ⟨?_, ?_, ?_, ?_, ?_, ?_, ?_⟩⟩
    · exact fun σ δ G2 H2 q g _ s2 => q.elim
    · exact fun σ δ G2 H2 q g _ s2 => q.elim
    · exact fun σ δ G2 H2 q g _ s2 => q.elim
    · exact fun d v G2 H2 q g _ hd => q.elim
    · exact fun o v f G2 H2 q => q.elim
    · exact fun σ' δ'' d v G2 H2 q => q.elim
    · exact fun q' vs' os f G2 H2 q g _ h1 h2 n2 m2 => kk q' vs' os f G2 H2 q g h1 h2 ⟨n2, m2⟩
end
/-- return x, e, .. -/
def dRetP (j : Nat) (ra : DA) : DTS := fun W δ => ownO δ[j]? fun _ o => ra δ fun ds => ds.length < sizeLine ∧ W.rp (o :: ds.map .sh)
def pCall (S : FP) (ra : DA) : OA := fun δ Q => ra δ fun ds => S ds Q
def twoO (os : List OD) (K : OD → OD → Prop) : Prop := match os with
  | [x, y] => K x y
  | _ => False
/-- a, b = e -/
def dUnpP (i j : Nat) (ra : OA) : DTS := fun W δ => ra δ fun os => twoO os fun x y => ∀ u v, W.nx ((δ.set i (some (slotOf u x))).set j (some (slotOf v y)))
section
variable {X : Cx} {B : Bx} {e o : Expr} {es : List Expr} {r ri : DE} {ra : DA} {rao : OA} {pos : Pos} {k k' i j : Nat} {S : FP}
theorem psd_retP {kt : Nat} {pt : Pos} {y : Str} {py : Pos} (hy : PE X (.Name y py) (tVar j)) (ha : PAD X B es ra) (hs : starEach (.Name y py :: es) X.env = (false, eval (.Name y py) X.env) :: starEach es X.env := by rfl) :
    PSD X B (.Return (some (.Tuple (.Name y py :: es) kt pt)) pos) (dRetP j ra) := ps_mono (ps_ret (pe_tup (pa_cons hy ha hs))) fun E σ H q => by
  obtain ⟨G0, H0, G, δ, W, g, st, h, kk⟩ := q
  have h : ownO δ[j]? (fun _ o => ra δ fun ds => ds.length < sizeLine ∧ W.rp (o :: ds.map .sh)) := h
  unfold ownO at h
  split at h
  · rename_i v o h1
    obtain ⟨Fo, y0⟩ := st.ex
    obtain ⟨e1, e2, e3, e4⟩ := y0.ow h1
    refine ⟨v, e1, H0, G, δ, _, g.j, st, h, fun ds ws G2 H2 q2 g2 d2 => ?_⟩
    obtain ⟨hl, q2⟩ := q2
    refine ⟨by rw [List.length_cons, d2.len]; exact hl, fun q hq => ?_⟩
    have g3 := g2.trans (Gr.new0 (o := .tup (v :: ws)) g2.j hq)
    have o3 := e2.gr g3 fun p hp => (e4 p hp).2
    have os := Owns.cons o3 (owns_sh (H := upd H2 q (.tup (v :: ws))) d2)
    rw [List.append_nil] at os
    exact kk.rp q (v :: ws) _ (Fo j) G2 _ q2 (g.trans g3) g2.ex upd_same os e3 e4
  · exact h.elim
theorem pp_call {x : Str} {st : Stmt} {ps : List Str} {fp : Pos} (T : DefAt X.K X.mg x st ps) (F : FnOk X.prog X.w X.K X.mg X.base CX0 k T.f T.fd ps (spP X.K B S)) (hr : Room k' X.A) (hk : k ≤ k') (hg : Gl X x) (ha : PAD X B (e :: es) ra) (hd : (x == ("__debug__" : Str)) = false := by decide) (he : starEach (e :: es) X.env = (false, eval e X.env) :: starEach es X.env := by rfl) (hpl : (backTo pos (starEach es X.env)).any (·.1) = false := by rfl) :
    PP X B (.Call (.Name x fp) (e :: es) [] pos) (pCall S ra) :=
  pe_mono (pe_call (E := E0) F (hr.mono hk) hg T.at_ T.fn.kp T.bd .nil pass0 ha hd he hpl) fun σ H P q => by
    obtain ⟨H0, G, δ, Q, j, st, h1, k⟩ := q
    exact ⟨H0, G, δ, _, j, st, h1, fun ds vs G2 H2 q2 g2 h2 => by
      show spP X.K B S (vs ++ []) H2 P E0
      rw [List.append_nil]
      exact ⟨G2, ds, Q, g2.j, h2, q2, fun q ws os f G3 H3 q3 g3 t3 h3 f3 => k q ws os f G3 H3 q3 (g2.trans g3) t3 h3 (f3.back g2)⟩⟩
theorem psd_unpP {x y : Str} {px py pt : Pos} {kt : Nat} (hc : X.calm = true) (hN : X.N.Nodup) (hi : X.N[i]? = some x) (hj : X.N[j]? = some y)
    (hx : Loc X.env.scope x) (hy : Loc X.env.scope y) (he : PP X B e rao)
    (hs : swapsWithSole [.Tuple [.Name x px, .Name y py] kt pt] e pos.line X.env = pure false := by rfl) (hw : swappedStores [.Tuple [.Name x px, .Name y py] kt pt] e X.env = pure none := by rfl) (h1 : (assignEach [.Tuple [.Name x px, .Name y py] kt pt] X.env).map (·.2) = [assign (.Tuple [.Name x px, .Name y py] kt pt) X.env] := by rfl)
    (hf : X.fn x = true ∨ X.env.scope.names.lookup x = some .local := by first | exact .inl rfl | exact .inr rfl | assumption) (hf2 : X.fn y = true ∨ X.env.scope.names.lookup y = some .local := by first | exact .inl rfl | exact .inr rfl | assumption) :
    PSD X B (.Assign [.Tuple [.Name x px, .Name y py] kt pt] e pos) (dUnpP i j rao) :=
  ps_mono (ps_asg he (pg_tup hc (pgs_cons (pg_name hN hi hx hf) (pgs_cons (pg_name hN hj hy hf2) pgs_nil))) hs hw h1) fun E σ H q => by
  obtain ⟨G0, H0, G, δ, W, g, s, h, k⟩ := q
  refine ⟨H0, G, δ, _, g.j, s, h, fun q vs os f G2 H2 q2 g2 t2 h2 f2 => ?_⟩
  cases h2 with
  | nil => exact q2.elim
  | @cons v1 o1 f1 _ _ _ h3 h4 =>
    cases h4 with
    | nil => exact q2.elim
    | @cons v2 o2 f2' _ _ _ h5 h6 =>
      cases h6 with
      | cons _ _ => exact q2.elim
      | nil =>
        have q2 : ∀ u v, W.nx ((δ.set i (some (slotOf u o1))).set j (some (slotOf v o2))) := q2
        rw [List.append_nil] at f2
        obtain ⟨n1, n2, n3⟩ := List.nodup_append.mp f2.1
        have a1 : ∀ p ∈ f1, H0 p = none ∧ B.nb p := fun p hp => (f2.back g).2 p (List.mem_append_left _ hp)
        have a2 : ∀ p ∈ f2', H0 p = none ∧ B.nb p := fun p hp => (f2.back g).2 p (List.mem_append_right _ hp)
        obtain ⟨F, y0⟩ := s.ex
        have y2 := y0.gr g2
        have nw := fresh_new (G2 := G2) (H2 := H2) y0 f2
        obtain ⟨F1, y3, s3⟩ := st_setF (i := i) y2 h3 n1 a1 fun l hl p hp => nw l hl p (List.mem_append_left _ hp)
        obtain ⟨F2, y4, _⟩ := st_setF (i := j) y3 h5 n2 a2 fun l hl p hp hq => by
          rw [List.length_set] at hl
          rcases s3 l hl p hq with z | z
          · exact n3 p z p hp rfl
          · exact nw l hl p (List.mem_append_right _ hp) z
        exact ⟨q, [v1, v2], rfl, st_of t2, rfl, v1, [v2], rfl, v2, [], rfl, rfl, k.nx _ _ G2 H2 (q2 v1 v2) (g.trans g2) g2.ex ⟨F2, y4⟩⟩
end
section
variable {ra : DA} {rao : OA} {ri : DE} {i j : Nat} {S : FP} {δ : DS} {W : DEnds} {Q : D → Prop} {Q2 : List OD → Prop} {x y : OD} {K : OD → OD → Prop} {d : D} {v : V}
theorem z_retP : dRetP j ra W δ = ownO δ[j]? fun _ o => ra δ fun ds => ds.length < sizeLine ∧ W.rp (o :: ds.map .sh) := propext Iff.rfl
theorem z_pCall : pCall S ra δ Q2 = ra δ fun ds => S ds Q2 := propext Iff.rfl
theorem z_unpP : dUnpP i j rao W δ = rao δ fun os => twoO os fun x y => ∀ u v, W.nx ((δ.set i (some (slotOf u x))).set j (some (slotOf v y))) := propext Iff.rfl
theorem z_twoO : twoO [x, y] K = K x y := propext Iff.rfl
end
end DL
namespace DL
open PySem PySem.Spec PyProof.Rows L2 Evl
def nwO (o : Option (Option SD)) (K : Addr → Nat → List (Option D) → Prop) : Prop := match o with
  | some (some (.nw x C fs)) => K x C fs
  | _ => False
section
variable {ρ : DR} {ro : OE} {ra : DA} {S : FN} {δ δ1 : DS} {W : DEnds} {i m C C1 n : Nat} {π : List Nat} {Q : Nat → List Nat → Prop} {Qo Q1 : OD → Prop} {QM : D → OD → Prop} {QP : List OD → Prop} {K : Nat → List OD → Prop} {xs : List OD} {v v1 : V} {x : Addr} {fs : List (Option D)} {KN : Addr → Nat → List (Option D) → Prop} {d : D} {os : List OD}
theorem z_fldR : rFld C m ρ δ Q = ρ δ fun i π => objAt δ i π fun C' xs => (C' = C ∧ m < xs.length) ∧ Q i (π ++ [m]) := propext Iff.rfl
theorem z_objA0 {δ : DS} : objAt (some (.ow v (.obj C xs)) :: δ) 0 [] K = K C xs := propext Iff.rfl
theorem z_objAS {δ : DS} {oo : Option SD} : objAt (oo :: δ) (i + 1) π K = objAt δ i π K := by unfold objAt getS; rw [List.getElem?_cons_succ]
theorem z_dicAO {δ : DS} {t : Bool} {ks : List (D × OD)} {KD : Bool → List (D × OD) → Prop} : dicAt (some (.ow v (.obj C (.dic t ks :: xs))) :: δ) 0 [0] KD = KD t ks := propext Iff.rfl
theorem z_putO {δ : DS} {y z : OD} : putS (some (.ow v (.obj C (y :: xs))) :: δ) 0 [0] z = some (.ow v (.obj C (z :: xs))) :: δ := rfl
theorem z_selfO : dSelfO i m C ro W δ = ro δ fun o => nwO δ[i]? fun x C' fs => (C' = C ∧ oneNw i δ = true) ∧ ∃ ds : List D, fs = ds.map some ∧ ds.length = m ∧ W.nx (δ.set i (some (.ow (.ref x) (.obj C (ds.map .sh ++ [o]))))) := by
  unfold dSelfO nwO
  rfl
theorem z_nwO : nwO (some (some (.nw x C fs))) KN = KN x C fs := propext Iff.rfl
theorem z_oMake : oMake S ra δ Qo = ra δ fun ds => S ds Qo := propext Iff.rfl
theorem z_endNn : (endN x Qo).nx δ = ownO δ[0]? fun v o => v = .ref x ∧ Qo o := propext Iff.rfl
theorem z_endMn : (endM n v QM).nx δ = ownO δ[n]? fun v' o' => v' = v ∧ QM .non o' := propext Iff.rfl
theorem z_endMs : (endM n v QM).rs δ d = ownO δ[n]? fun v' o' => v' = v ∧ QM d o' := propext Iff.rfl
theorem z_endMr : (endM n v QM).rt d = False := rfl
theorem z_endPp : (endP QP).rp os = QP os := rfl
theorem z_endPr : (endP QP).rt d = False := rfl
end
end DL
namespace DL
open PySem PySem.Spec PyProof.Rows L2 Evl
theorem zHd0 : (type_of% @z_dgetK) ∧ (type_of% @z_inKD) ∧ (type_of% @z_ninKD) ∧ (type_of% @z_iKeys) ∧ (type_of% @z_keysD) ∧ (type_of% @z_lenD) ∧ (type_of% @z_eqDD) ∧ (type_of% @z_reprD) ∧ (type_of% @z_eqAd) ∧ (type_of% @z_eqAl) ∧ (type_of% @z_eqAt) ∧ (type_of% @z_eqAi) ∧ (type_of% @z_eqAs) ∧ (type_of% @z_eqAb) ∧ (type_of% @z_eqAn) ∧ (type_of% @z_rpAd) ∧ (type_of% @z_rpAl) ∧ (type_of% @z_rpAt) ∧ (type_of% @z_rpAi) ∧ (type_of% @z_rpAs) ∧ (type_of% @z_rpAb) ∧ (type_of% @z_rpAn) ∧ (type_of% @z_neDD) ∧ (type_of% @z_shDs) ∧ (type_of% @z_shDn) ∧ (type_of% @z_borT) ∧ (type_of% @z_scTN) ∧ (type_of% @z_scTB) ∧ (type_of% @z_scTI) ∧ (type_of% @z_scTS) ∧ (type_of% @z_scTT) ∧ (type_of% @z_rpNl) ∧ (type_of% @z_rpNt) ∧ (type_of% @z_rpNd) ∧ (type_of% @z_rpNi) ∧ (type_of% @z_rpNs) ∧ (type_of% @z_rpNb) ∧ (type_of% @z_rpNn) ∧ (type_of% @z_insR) ∧ (type_of% @z_insI) ∧ (type_of% @iteO_t) ∧ (type_of% @iteO_f) ∧ (type_of% @z_shl) ∧ (type_of% @z_ifOwO) ∧ (type_of% @z_ifOwS) ∧ (type_of% @z_tIfOw) ∧ (type_of% @z_norm) ∧ (type_of% @z_normS) ∧ (type_of% @z_normL) ∧ (type_of% @z_lc3) ∧ (type_of% @z_bxor) ∧ (type_of% @z_bits) ∧ (type_of% @z_intD) ∧ (type_of% @z_str3) ∧ (type_of% @z_strQ) ∧ (type_of% @z_partQ) ∧ (type_of% @z_fItemsT) ∧ (type_of% @z_dctD) ∧ (type_of% @z_oDictD) ∧ (type_of% @z_retS) ∧ (type_of% @z_mD) ∧ (type_of% @z_mMeth) ∧ (type_of% @z_mtCmp) ∧ (type_of% @z_mIfe) ∧ (type_of% @z_ifT) ∧ (type_of% @z_ifF) ∧ (type_of% @z_setM) ∧ (type_of% @z_augM) ∧ (type_of% @z_shS) ∧ (type_of% @z_objC) ∧ (type_of% @z_retP) ∧ (type_of% @z_pCall) ∧ (type_of% @z_unpP) ∧ (type_of% @z_twoO) ∧ (type_of% @z_fldR) ∧ (type_of% @z_objA0) ∧ (type_of% @z_objAS) ∧ (type_of% @z_dicAO) ∧ (type_of% @z_putO) ∧ (type_of% @z_selfO) ∧ (type_of% @z_nwO) ∧ (type_of% @z_oMake) ∧ (type_of% @z_endNn) ∧ (type_of% @z_endMn) ∧ (type_of% @z_endMs) ∧ (type_of% @z_endMr) ∧ (type_of% @z_endPp) ∧ (type_of% @z_endPr) := ⟨@z_dgetK, @z_inKD, @z_ninKD, @z_iKeys, @z_keysD, @z_lenD, @z_eqDD, @z_reprD, @z_eqAd, @z_eqAl, @z_eqAt, @z_eqAi, @z_eqAs, @z_eqAb, @z_eqAn, @z_rpAd, @z_rpAl, @z_rpAt, @z_rpAi, @z_rpAs, @z_rpAb, @z_rpAn, @z_neDD, @z_shDs, @z_shDn, @z_borT, @z_scTN, @z_scTB, @z_scTI, @z_scTS, @z_scTT, @z_rpNl, @z_rpNt, @z_rpNd, @z_rpNi, @z_rpNs, @z_rpNb, @z_rpNn, @z_insR, @z_insI, @iteO_t, @iteO_f, @z_shl, @z_ifOwO, @z_ifOwS, @z_tIfOw, @z_norm, @z_normS, @z_normL, @z_lc3, @z_bxor, @z_bits, @z_intD, @z_str3, @z_strQ, @z_partQ, @z_fItemsT, @z_dctD, @z_oDictD, @z_retS, @z_mD, @z_mMeth, @z_mtCmp, @z_mIfe, @z_ifT, @z_ifF, @z_setM, @z_augM, @z_shS, @z_objC, @z_retP, @z_pCall, @z_unpP, @z_twoO, @z_fldR, @z_objA0, @z_objAS, @z_dicAO, @z_putO, @z_selfO, @z_nwO, @z_oMake, @z_endNn, @z_endMn, @z_endMs, @z_endMr, @z_endPp, @z_endPr⟩
theorem zHp0 : (type_of% @z_toDs) := @z_toDs
end DL
namespace My
open PySem PySem.Spec PyProof.Rows L2 Evl DL
def topS (i : Nat) : Stmt := PySem.Challenge.pw_poleribbons_k70_told_back_by_all_words.main.body.getD i (.Pass ⟨0, 0, 0, 0⟩)
abbrev s_Word_again : Stmt := inClass (topS 12) 3
theorem sc_Word_again : FnScope ["self"] ["self"] (defScope s_Word_again) := ⟨rfl, rfl, rfl, by decide +kernel, rfl, by decide +kernel, by decide +kernel⟩
abbrev s_Word_early : Stmt := inClass (topS 12) 2
theorem sc_Word_early : FnScope ["self"] ["self"] (defScope s_Word_early) := ⟨rfl, rfl, rfl, by decide +kernel, rfl, by decide +kernel, by decide +kernel⟩
abbrev s_Sums_rank : Stmt := inClass (topS 18) 4
theorem sc_Sums_rank : FnScope ["self"] ["self"] (defScope s_Sums_rank) := ⟨rfl, rfl, rfl, by decide +kernel, rfl, by decide +kernel, by decide +kernel⟩
abbrev s_many_characters : Stmt := topS 17
theorem sc_many_characters : FnScope ["forms", "reader", "lead", "period"] ["forms"] (defScope s_many_characters) := ⟨rfl, rfl, rfl, by decide +kernel, rfl, by decide +kernel, by decide +kernel⟩
abbrev s_Sums___init__ : Stmt := inClass (topS 18) 1
theorem sc_Sums___init__ : FnScope ["self"] ["self"] (defScope s_Sums___init__) := ⟨rfl, rfl, rfl, by decide +kernel, rfl, by decide +kernel, by decide +kernel⟩
abbrev s_Sums_reduced : Stmt := inClass (topS 18) 2
theorem sc_Sums_reduced : FnScope ["self", "mask", "bit", "taken", "row"] ["self", "mask", "bit", "taken"] (defScope s_Sums_reduced) := ⟨rfl, rfl, rfl, by decide +kernel, rfl, by decide +kernel, by decide +kernel⟩
abbrev s_Sums_put : Stmt := inClass (topS 18) 3
theorem sc_Sums_put : FnScope ["self", "mask", "bit", "taken", "left", "told", "used"] ["self", "mask", "bit", "taken"] (defScope s_Sums_put) := ⟨rfl, rfl, rfl, by decide +kernel, rfl, by decide +kernel, by decide +kernel⟩
abbrev s_every_meeting : Stmt := topS 15
theorem sc_every_meeting : FnScope ["suns", "moons", "rounds", "r", "i", "j"] ["suns", "moons", "rounds"] (defScope s_every_meeting) := ⟨rfl, rfl, rfl, by decide +kernel, rfl, by decide +kernel, by decide +kernel⟩
abbrev s_mask_at : Stmt := topS 16
theorem sc_mask_at : FnScope ["forms", "meeting", "suns", "moons", "r", "i", "j", "numbers", "found", "ahead", "reader", "lead", "period", "x"] ["forms", "meeting", "suns", "moons"] (defScope s_mask_at) := ⟨rfl, rfl, rfl, by decide +kernel, rfl, by decide +kernel, by decide +kernel⟩
abbrev s_numbers_of : Stmt := topS 14
theorem sc_numbers_of : FnScope ["crossings", "i", "j"] ["crossings"] (defScope s_numbers_of) := ⟨rfl, rfl, rfl, by decide +kernel, rfl, by decide +kernel, by decide +kernel⟩
abbrev s_sums_of : Stmt := topS 19
theorem sc_sums_of : FnScope ["crossings", "forms", "suns", "moons", "rounds", "sums", "place", "r", "i", "j", "bit", "refused"] ["crossings", "forms"] (defScope s_sums_of) := ⟨rfl, rfl, rfl, by decide +kernel, rfl, by decide +kernel, by decide +kernel⟩
abbrev s_many_told : Stmt := topS 20
theorem sc_many_told : FnScope ["crossings", "forms", "sums", "refused"] ["crossings", "forms"] (defScope s_many_told) := ⟨rfl, rfl, rfl, by decide +kernel, rfl, by decide +kernel, by decide +kernel⟩
abbrev s_are_bits : Stmt := topS 2
theorem sc_are_bits : FnScope ["thing", "sign"] ["thing"] (defScope s_are_bits) := ⟨rfl, rfl, rfl, by decide +kernel, rfl, by decide +kernel, by decide +kernel⟩
abbrev s_Word___init__ : Stmt := inClass (topS 12) 1
theorem sc_Word___init__ : FnScope ["self", "early", "again"] ["self", "early", "again"] (defScope s_Word___init__) := ⟨rfl, rfl, rfl, by decide +kernel, rfl, by decide +kernel, by decide +kernel⟩
abbrev s_told_back : Stmt := topS 21
theorem sc_told_back : FnScope ["crossings", "forms", "sums", "refused", "bits", "fresh", "place", "words", "ahead", "reader", "lead", "period"] ["crossings", "forms"] (defScope s_told_back) := ⟨rfl, rfl, rfl, by decide +kernel, rfl, by decide +kernel, by decide +kernel⟩
abbrev s__law_bag : Stmt := topS 23
theorem sc__law_bag : FnScope ["_law_script", "_law_cell"] ["_law_script"] (defScope s__law_bag) := ⟨rfl, rfl, rfl, by decide +kernel, rfl, by decide +kernel, by decide +kernel⟩
abbrev s__law_my_crossings : Stmt := topS 33
theorem sc__law_my_crossings : FnScope ["_law_text", "_law_n", "_law_m", "_law_rounds", "_law_found", "_law_i", "_law_j"] ["_law_text", "_law_n", "_law_m", "_law_rounds"] (defScope s__law_my_crossings) := ⟨rfl, rfl, rfl, by decide +kernel, rfl, by decide +kernel, by decide +kernel⟩
abbrev s__law_take : Stmt := topS 24
theorem sc__law_take : FnScope ["_law_bag_here", "_law_many", "_law_cell", "_law_mixed_here", "_law_value", "_law_begin", "_law_second"] ["_law_bag_here", "_law_many"] (defScope s__law_take) := ⟨rfl, rfl, rfl, by decide +kernel, rfl, by decide +kernel, by decide +kernel⟩
abbrev s__law_pick : Stmt := topS 27
theorem sc__law_pick : FnScope ["_law_bag_here", "_law_things"] ["_law_bag_here", "_law_things"] (defScope s__law_pick) := ⟨rfl, rfl, rfl, by decide +kernel, rfl, by decide +kernel, by decide +kernel⟩
abbrev s__law_my_forms : Stmt := topS 28
theorem sc__law_my_forms : FnScope ["_law_bag_here", "_law_many", "_law_size", "_law_found", "_law_yet", "_law_wide", "_law_k", "_law_lead", "_law_period"] ["_law_bag_here", "_law_many", "_law_size"] (defScope s__law_my_forms) := ⟨rfl, rfl, rfl, by decide +kernel, rfl, by decide +kernel, by decide +kernel⟩
abbrev s__law_mixed : Stmt := topS 26
theorem sc__law_mixed : FnScope ["_law_bag_here", "_law_things", "_law_found", "_law_thing"] ["_law_bag_here", "_law_things"] (defScope s__law_mixed) := ⟨rfl, rfl, rfl, by decide +kernel, rfl, by decide +kernel, by decide +kernel⟩
abbrev s__law_my_shuffled : Stmt := topS 37
theorem sc__law_my_shuffled : FnScope ["_law_bag_here", "_law_cloth"] ["_law_bag_here", "_law_cloth"] (defScope s__law_my_shuffled) := ⟨rfl, rfl, rfl, by decide +kernel, rfl, by decide +kernel, by decide +kernel⟩
abbrev s__law_my_size : Stmt := topS 30
theorem sc__law_my_size : FnScope ["_law_forms", "_law_form"] ["_law_forms"] (defScope s__law_my_size) := ⟨rfl, rfl, rfl, by decide +kernel, rfl, by decide +kernel, by decide +kernel⟩
abbrev s__law_my_meetings : Stmt := topS 31
theorem sc__law_my_meetings : FnScope ["_law_n", "_law_m", "_law_rounds", "_law_found", "_law_r", "_law_i", "_law_j"] ["_law_n", "_law_m", "_law_rounds"] (defScope s__law_my_meetings) := ⟨rfl, rfl, rfl, by decide +kernel, rfl, by decide +kernel, by decide +kernel⟩
abbrev s__law_my_places : Stmt := topS 29
theorem sc__law_my_places : FnScope ["_law_forms", "_law_r", "_law_i", "_law_j", "_law_n", "_law_m", "_law_numbers", "_law_found", "_law_ahead", "_law_reader", "_law_lead", "_law_period", "_law_x"] ["_law_forms", "_law_r", "_law_i", "_law_j", "_law_n", "_law_m"] (defScope s__law_my_places) := ⟨rfl, rfl, rfl, by decide +kernel, rfl, by decide +kernel, by decide +kernel⟩
abbrev s__law_my_woven : Stmt := topS 32
theorem sc__law_my_woven : FnScope ["_law_forms", "_law_bits", "_law_n", "_law_m", "_law_rounds", "_law_found", "_law_r", "_law_i", "_law_j", "_law_ones", "_law_place"] ["_law_forms", "_law_bits", "_law_n", "_law_m", "_law_rounds"] (defScope s__law_my_woven) := ⟨rfl, rfl, rfl, by decide +kernel, rfl, by decide +kernel, by decide +kernel⟩
abbrev s__law_alike : Stmt := topS 25
theorem sc__law_alike : FnScope ["_law_found", "_law_due"] ["_law_found", "_law_due"] (defScope s__law_alike) := ⟨rfl, rfl, rfl, by decide +kernel, rfl, by decide +kernel, by decide +kernel⟩
abbrev s__law_my_cut : Stmt := topS 35
theorem sc__law_my_cut : FnScope ["_law_forms", "_law_bits", "_law_found", "_law_ahead", "_law_reader", "_law_lead", "_law_period"] ["_law_forms", "_law_bits"] (defScope s__law_my_cut) := ⟨rfl, rfl, rfl, by decide +kernel, rfl, by decide +kernel, by decide +kernel⟩
abbrev s__law_my_shown : Stmt := topS 36
theorem sc__law_my_shown : FnScope ["_law_words", "_law_word"] ["_law_words"] (defScope s__law_my_shown) := ⟨rfl, rfl, rfl, by decide +kernel, rfl, by decide +kernel, by decide +kernel⟩
abbrev s__law_my_strings : Stmt := topS 34
theorem sc__law_my_strings : FnScope ["_law_size", "_law_found", "_law_k", "_law_later", "_law_text"] ["_law_size"] (defScope s__law_my_strings) := ⟨rfl, rfl, rfl, by decide +kernel, rfl, by decide +kernel, by decide +kernel⟩
abbrev s__law_right : Stmt := topS 38
theorem sc__law_right : FnScope ["_law_cloth", "_law_text", "_law_forms", "_law_n", "_law_m", "_law_rounds", "_law_every", "_law_bits", "_law_due", "_law_kept", "_law_again", "_law_found"] ["_law_cloth", "_law_text", "_law_forms", "_law_n", "_law_m", "_law_rounds"] (defScope s__law_right) := ⟨rfl, rfl, rfl, by decide +kernel, rfl, by decide +kernel, by decide +kernel⟩
abbrev s_law : Stmt := topS 39
theorem sc_law : FnScope ["_law_script", "_law_bag_here", "_law_turn", "_law_n", "_law_m", "_law_rounds", "_law_forms", "_law_bits", "_law_text", "_law_at", "_law_cloth", "_law_k"] ["_law_script"] (defScope s_law) := ⟨rfl, rfl, rfl, by decide +kernel, rfl, by decide +kernel, by decide +kernel⟩
/-- what the top has left -/
structure Top (K : PySem.W.Frag) (mg : Str → Option Value) (ct : Nat → Addr) where
  i_Word_again : InAt K "again" "Word.again" s_Word_again ["self"]
  i_Word_early : InAt K "early" "Word.early" s_Word_early ["self"]
  i_Sums_rank : InAt K "rank" "Sums.rank" s_Sums_rank ["self"]
  f_many_characters : DefAt K mg "many_characters" s_many_characters ["forms"]
  i_Sums___init__ : InAt K "__init__" "Sums.__init__" s_Sums___init__ ["self"]
  i_Sums_reduced : InAt K "reduced" "Sums.reduced" s_Sums_reduced ["self", "mask", "bit", "taken"]
  i_Sums_put : InAt K "put" "Sums.put" s_Sums_put ["self", "mask", "bit", "taken"]
  f_every_meeting : DefAt K mg "every_meeting" s_every_meeting ["suns", "moons", "rounds"]
  f_mask_at : DefAt K mg "mask_at" s_mask_at ["forms", "meeting", "suns", "moons"]
  f_numbers_of : DefAt K mg "numbers_of" s_numbers_of ["crossings"]
  f_sums_of : DefAt K mg "sums_of" s_sums_of ["crossings", "forms"]
  f_many_told : DefAt K mg "many_told" s_many_told ["crossings", "forms"]
  f_are_bits : DefAt K mg "are_bits" s_are_bits ["thing"]
  i_Word___init__ : InAt K "__init__" "Word.__init__" s_Word___init__ ["self", "early", "again"]
  f_told_back : DefAt K mg "told_back" s_told_back ["crossings", "forms"]
  f__law_bag : DefAt K mg "_law_bag" s__law_bag ["_law_script"]
  f__law_my_crossings : DefAt K mg "_law_my_crossings" s__law_my_crossings ["_law_text", "_law_n", "_law_m", "_law_rounds"]
  f__law_take : DefAt K mg "_law_take" s__law_take ["_law_bag_here", "_law_many"]
  f__law_pick : DefAt K mg "_law_pick" s__law_pick ["_law_bag_here", "_law_things"]
  f__law_my_forms : DefAt K mg "_law_my_forms" s__law_my_forms ["_law_bag_here", "_law_many", "_law_size"]
  f__law_mixed : DefAt K mg "_law_mixed" s__law_mixed ["_law_bag_here", "_law_things"]
  f__law_my_shuffled : DefAt K mg "_law_my_shuffled" s__law_my_shuffled ["_law_bag_here", "_law_cloth"]
  f__law_my_size : DefAt K mg "_law_my_size" s__law_my_size ["_law_forms"]
  f__law_my_meetings : DefAt K mg "_law_my_meetings" s__law_my_meetings ["_law_n", "_law_m", "_law_rounds"]
  f__law_my_places : DefAt K mg "_law_my_places" s__law_my_places ["_law_forms", "_law_r", "_law_i", "_law_j", "_law_n", "_law_m"]
  f__law_my_woven : DefAt K mg "_law_my_woven" s__law_my_woven ["_law_forms", "_law_bits", "_law_n", "_law_m", "_law_rounds"]
  f__law_alike : DefAt K mg "_law_alike" s__law_alike ["_law_found", "_law_due"]
  f__law_my_cut : DefAt K mg "_law_my_cut" s__law_my_cut ["_law_forms", "_law_bits"]
  f__law_my_shown : DefAt K mg "_law_my_shown" s__law_my_shown ["_law_words"]
  f__law_my_strings : DefAt K mg "_law_my_strings" s__law_my_strings ["_law_size"]
  f__law_right : DefAt K mg "_law_right" s__law_right ["_law_cloth", "_law_text", "_law_forms", "_law_n", "_law_m", "_law_rounds"]
  f_law : DefAt K mg "law" s_law ["_law_script"]
  c_Word : SlX.SCls K (ct 0)
  g_Word : mg "Word" = some (.ref (ct 0))
  s_Word_its_again : SlotAt K (ct 0) "its_again" 0
  s_Word_its_early : SlotAt K (ct 0) "its_early" 1
  mk_Word : Mk K (ct 0) i_Word___init__.f
  p_Word_again : PrpAt K (ct 0) "again" i_Word_again.f
  p_Word_early : PrpAt K (ct 0) "early" i_Word_early.f
  c_Sums : SlX.SCls K (ct 9)
  g_Sums : mg "Sums" = some (.ref (ct 9))
  s_Sums_its_rows : SlotAt K (ct 9) "its_rows" 0
  mk_Sums : Mk K (ct 9) i_Sums___init__.f
  m_Sums_rank : Meth K (ct 9) "rank" i_Sums_rank.f
  m_Sums_reduced : Meth K (ct 9) "reduced" i_Sums_reduced.f
  m_Sums_put : Meth K (ct 9) "put" i_Sums_put.f
  n_abs : mg "abs" = none
  n_all : mg "all" = none
  n_dict : mg "dict" = none
  n_enumerate : mg "enumerate" = none
  n_int : mg "int" = none
  n_isinstance : mg "isinstance" = none
  n_len : mg "len" = none
  n_list : mg "list" = none
  n_max : mg "max" = none
  n_range : mg "range" = none
  n_repr : mg "repr" = none
  n_str : mg "str" = none
  n_sum : mg "sum" = none
theorem sz_w {n : Nat} (h : n ≤ 1000) : n ≤ sizeLine := Nat.le_trans h (by decide)
def S_Word_again : FD := fun ds Q => match ds with
  | [.obj 0 [.str a, .str e]] => Q (.str a)
  | _ => False
theorem len_Word_again : ∀ ds Q, S_Word_again ds Q → ds.length = 1
  | [.obj 0 [.str _, .str _]], _, _ => rfl
def t_Word_again : DTS := (dRet (dFld 0 0 (dVar 0)))
theorem vc_Word_again : ∀ ds Q, S_Word_again ds Q → t_Word_again { nx := fun _ => Q .non, rt := Q } (startD [("self" : Str)].length ds)
  | [.obj 0 [.str a, .str e]], Q, h => ⟨rfl, h⟩
theorem ok_Word_again {P : Program} {w : World} {K : PySem.W.Frag} {mg : Str → Option Value} {base : Heap} {B : Bx} (T : Top K mg B.ct) : FnOk P w K mg base CX0 1 T.i_Word_again.f T.i_Word_again.fd ["self"] (spD K B S_Word_again) := by
  refine fn_d (k := 0) (t := t_Word_again) T.i_Word_again.fn sc_Word_again len_Word_again (fun cdv A outer s H E hr => ?_) vc_Word_again
  refine psd_one ?_
  refine (psd_ret (pd_fldD T.c_Word T.s_Word_its_again (pd_var 0)))
theorem r_Word_again {P : Program} {w : World} {K : PySem.W.Frag} {mg : Str → Option Value} {base : Heap} {B : Bx} (T : Top K mg B.ct) : FnR P w K mg base CX0 1 T.i_Word_again.f (spD K B S_Word_again) := fn_r (ok_Word_again T) T.i_Word_again.bd
def S_Word_early : FD := fun ds Q => match ds with
  | [.obj 0 [.str a, .str e]] => Q (.str e)
  | _ => False
theorem len_Word_early : ∀ ds Q, S_Word_early ds Q → ds.length = 1
  | [.obj 0 [.str _, .str _]], _, _ => rfl
def t_Word_early : DTS := (dRet (dFld 0 1 (dVar 0)))
theorem vc_Word_early : ∀ ds Q, S_Word_early ds Q → t_Word_early { nx := fun _ => Q .non, rt := Q } (startD [("self" : Str)].length ds)
  | [.obj 0 [.str a, .str e]], Q, h => ⟨rfl, h⟩
theorem ok_Word_early {P : Program} {w : World} {K : PySem.W.Frag} {mg : Str → Option Value} {base : Heap} {B : Bx} (T : Top K mg B.ct) : FnOk P w K mg base CX0 1 T.i_Word_early.f T.i_Word_early.fd ["self"] (spD K B S_Word_early) := by
  refine fn_d (k := 0) (t := t_Word_early) T.i_Word_early.fn sc_Word_early len_Word_early (fun cdv A outer s H E hr => ?_) vc_Word_early
  refine psd_one ?_
  refine (psd_ret (pd_fldD T.c_Word T.s_Word_its_early (pd_var 0)))
theorem r_Word_early {P : Program} {w : World} {K : PySem.W.Frag} {mg : Str → Option Value} {base : Heap} {B : Bx} (T : Top K mg B.ct) : FnR P w K mg base CX0 1 T.i_Word_early.f (spD K B S_Word_early) := fn_r (ok_Word_early T) T.i_Word_early.bd
def t_Sums_rank : DTS := (dRet (dCall cLenD (dCons (dFld 9 0 (dVar 0)) dNil)))
def S_Sums_rank : FD := fun ds Q => ds.length = 1 ∧ t_Sums_rank { nx := fun _ => Q .non, rt := Q } (startD 1 ds)
theorem len_Sums_rank : ∀ ds Q, S_Sums_rank ds Q → ds.length = 1 := fun _ _ h => h.1
theorem vc_Sums_rank : ∀ ds Q, S_Sums_rank ds Q → t_Sums_rank { nx := fun _ => Q .non, rt := Q } (startD 1 ds) := fun _ _ h => h.2
theorem ok_Sums_rank {P : Program} {w : World} {K : PySem.W.Frag} {mg : Str → Option Value} {base : Heap} {B : Bx} (T : Top K mg B.ct) : FnOk P w K mg base CX0 1 T.i_Sums_rank.f T.i_Sums_rank.fd ["self"] (spD K B S_Sums_rank) := by
  refine fn_d (k := 0) (t := t_Sums_rank) T.i_Sums_rank.fn sc_Sums_rank len_Sums_rank (fun cdv A outer s H E hr => ?_) vc_Sums_rank
  refine psd_one ?_
  refine (psd_ret (pd_callB call_lenDD (by rfl) T.n_len (by decide +kernel) (pad_cons (pd_fldD T.c_Sums T.s_Sums_its_rows (pd_var 0)) pad_nil)))
theorem r_Sums_rank {P : Program} {w : World} {K : PySem.W.Frag} {mg : Str → Option Value} {base : Heap} {B : Bx} (T : Top K mg B.ct) : FnR P w K mg base CX0 1 T.i_Sums_rank.f (spD K B S_Sums_rank) := fn_r (ok_Sums_rank T) T.i_Sums_rank.bd
def t_many_characters : DTS := (dRet (dCall cSumL (dCons (dF (fLc (iSeq (dVar 0)) (gT 3 (gsCons (gN 1) (gsCons (gN 2) (gsCons (gN 3) gsNil)))) dYes (dOp oAdd (dVar 2) (dVar 3)) [1, 2, 3])) dNil)))
def S_many_characters : FD := fun ds Q => ds.length = 1 ∧ t_many_characters { nx := fun _ => Q .non, rt := Q } (startD 4 ds)
theorem len_many_characters : ∀ ds Q, S_many_characters ds Q → ds.length = 1 := fun _ _ h => h.1
theorem vc_many_characters : ∀ ds Q, S_many_characters ds Q → t_many_characters { nx := fun _ => Q .non, rt := Q } (startD 4 ds) := fun _ _ h => h.2
theorem ok_many_characters {P : Program} {w : World} {K : PySem.W.Frag} {mg : Str → Option Value} {base : Heap} {B : Bx} (T : Top K mg B.ct) : FnOk P w K mg base CX0 1 T.f_many_characters.f T.f_many_characters.fd ["forms"] (spD K B S_many_characters) := by
  refine fn_d (k := 0) (t := t_many_characters) T.f_many_characters.fn sc_many_characters len_many_characters (fun cdv A outer s H E hr => ?_) vc_many_characters
  refine psd_one ?_
  refine (psd_ret (pd_callB (call_sumL_d rfl) (by rfl) T.n_sum (by decide +kernel) (pad_cons (pd_f (pf_lc rfl sc_many_characters.nd (pid_seq (pd_var 0)) (blkOk_by (own := [("reader", 1), ("lead", 2), ("period", 3)]) (by rfl)) (by decide) (fun _ _ _ _ _ => (pgd_tup rfl (pgsd_cons (pgd_name (i := 1) sc_many_characters.nd rfl (by first | exact .inl rfl | exact .inr rfl)) (pgsd_cons (pgd_name (i := 2) sc_many_characters.nd rfl (by first | exact .inl rfl | exact .inr rfl)) (pgsd_cons (pgd_name (i := 3) sc_many_characters.nd rfl (by first | exact .inl rfl | exact .inr rfl)) pgsd_nil))))) (fun _ _ _ _ _ => ptsd_nil) (fun _ _ _ _ _ => (pd_bin op_add_d (pd_var 2) (pd_var 3))))) pad_nil)))
def t_Sums___init__ : DTS := (dSelfO 0 0 9 (oDic0 false))
def S_Sums___init__ : FN := fun ds Q => ds.length + 1 = 1 ∧ ∀ x, t_Sums___init__ (endN x Q) (startI 1 x 9 ds)
theorem len_Sums___init__ : ∀ ds Q, S_Sums___init__ ds Q → ds.length + 1 = 1 := fun _ _ h => h.1
theorem vc_Sums___init__ : ∀ x ds Q, S_Sums___init__ ds Q → t_Sums___init__ (endN x Q) (startI 1 x 9 ds) := fun x _ _ h => h.2 x
theorem ok_Sums___init__ {P : Program} {w : World} {K : PySem.W.Frag} {mg : Str → Option Value} {base : Heap} {B : Bx} (T : Top K mg B.ct) : FnOk P w K mg base CX0 1 T.i_Sums___init__.f T.i_Sums___init__.fd ["self"] (spN K B 9 S_Sums___init__) := by
  refine fn_initN (k := 0) (t := t_Sums___init__) T.i_Sums___init__.fn sc_Sums___init__ len_Sums___init__ (by decide) (fun cdv A outer s H E hr => ?_) vc_Sums___init__
  refine psd_one ?_
  refine (psd_selfO T.c_Sums T.s_Sums_its_rows.ex.choose_spec (pv 0) po_dicK)
theorem r_Sums___init__ {P : Program} {w : World} {K : PySem.W.Frag} {mg : Str → Option Value} {base : Heap} {B : Bx} (T : Top K mg B.ct) : FnR P w K mg base CX0 1 T.i_Sums___init__.f (spN K B 9 S_Sums___init__) := fn_r (ok_Sums___init__ T) T.i_Sums___init__.bd
def Sums_reduced_at_3 : DTS := (dPar3 1 2 3 (oCons (oD (dOp oBiXor (dVar 1) (dOp oIx (dVar 4) (dC (.int 0))))) (oCons (oD (dOp oBiXor (dVar 2) (dOp oIx (dVar 4) (dC (.int 1))))) (oCons (oD (dOp oBiXor (dVar 3) (dOp oIx (dVar 4) (dC (.int 2))))) oNil))))
def b_Sums_reduced_1 : DTS := (dSeq (dSet 4 (dDGetK (dFld 9 0 (dVar 0)) (dBits (dVar 1))))
  Sums_reduced_at_3)
def Sums_reduced_at_4 : DTS := (dRet (dTup (dCons (dVar 1) (dCons (dVar 2) (dCons (dVar 3) dNil)))))
def t_Sums_reduced : DTS := (dSeq (dWhile (tAn (tBl (dOp oGt (dVar 1) (dC (.int 0)))) (tBl (dOp (oInK false) (dBits (dVar 1)) (dFld 9 0 (dVar 0))))) b_Sums_reduced_1)
  Sums_reduced_at_4)
def S_Sums_reduced : FD := fun ds Q => ds.length = 4 ∧ t_Sums_reduced { nx := fun _ => Q .non, rt := Q } (startD 5 ds)
theorem len_Sums_reduced : ∀ ds Q, S_Sums_reduced ds Q → ds.length = 4 := fun _ _ h => h.1
theorem vc_Sums_reduced : ∀ ds Q, S_Sums_reduced ds Q → t_Sums_reduced { nx := fun _ => Q .non, rt := Q } (startD 5 ds) := fun _ _ h => h.2
theorem ok_Sums_reduced {P : Program} {w : World} {K : PySem.W.Frag} {mg : Str → Option Value} {base : Heap} {B : Bx} (T : Top K mg B.ct) : FnOk P w K mg base CX0 1 T.i_Sums_reduced.f T.i_Sums_reduced.fd ["self", "mask", "bit", "taken"] (spD K B S_Sums_reduced) := by
  refine fn_d (k := 0) (t := t_Sums_reduced) T.i_Sums_reduced.fn sc_Sums_reduced len_Sums_reduced (fun cdv A outer s H E hr => ?_) vc_Sums_reduced
  refine psd_cons ?_ ?_
  · refine psd_while PassesOwn.never (pwd_and (ptd_cmp op_gt_d (pd_var 1) pd_int (by rfl)) (pwd_and1 (ptd_cmp (op_inK (room_u1 hr)) (pd_bits (pd_var 1)) (pd_fldD T.c_Sums T.s_Sums_its_rows (pd_var 0)) (by rfl)))).pt ?_
    refine psd_cons ?_ ?_
    · refine (psd_set (i := 4) sc_Sums_reduced.nd rfl (by first | exact .inl rfl | exact .inr rfl) (pd_dgetK (room_u1 hr) (pd_fldD T.c_Sums T.s_Sums_its_rows (pd_var 0)) (pd_bits (pd_var 1)) (fun _ _ => rfl)))
    refine psd_one ?_
    refine (psd_par3 (i := 1) (j := 2) (l := 3) rfl sc_Sums_reduced.nd rfl rfl rfl (by decide) (by decide) (by decide) rfl rfl rfl (pao_cons (po_d (pd_bin op_bxor_d (pd_var 1) (pd_ix ix_d (pd_var 4) pd_int))) (pao_cons (po_d (pd_bin op_bxor_d (pd_var 2) (pd_ix ix_d (pd_var 4) pd_int))) (pao_cons (po_d (pd_bin op_bxor_d (pd_var 3) (pd_ix ix_d (pd_var 4) pd_int))) pao_nil))) (by rfl))
  refine psd_one ?_
  refine (psd_ret (pd_tup (pad_cons (pd_var 1) (pad_cons (pd_var 2) (pad_cons (pd_var 3) pad_nil)))))
theorem r_Sums_reduced {P : Program} {w : World} {K : PySem.W.Frag} {mg : Str → Option Value} {base : Heap} {B : Bx} (T : Top K mg B.ct) : FnR P w K mg base CX0 1 T.i_Sums_reduced.f (spD K B S_Sums_reduced) := fn_r (ok_Sums_reduced T) T.i_Sums_reduced.bd
def Sums_put_at_4 : DTS := (dRetS (dC (.int 0)))
def Sums_put_at_5 : DTS := (dRetS (dIfE (tBl (dOp oEq (dVar 5) (dC (.int 1)))) (dVar 6) (dC (.int 0))))
def Sums_put_at_2 : DTS := (dSeq (dIfS (tBl (dOp oGt (dVar 4) (dC (.int 0)))) (dSeq (dDPutR (rFld 9 0 (rVar 0)) (dBits (dVar 4)) (dTup (dCons (dVar 4) (dCons (dVar 5) (dCons (dVar 6) dNil)))))
  Sums_put_at_4) dNext)
  Sums_put_at_5)
def t_Sums_put : DTS := (dSeq (dAsg (dBorT 0 (dMeth 9 S_Sums_reduced (dVar 0) (dCons (dVar 1) (dCons (dVar 2) (dCons (dVar 3) dNil))))) (gT 3 (gsCons (gN 4) (gsCons (gN 5) (gsCons (gN 6) gsNil)))))
  Sums_put_at_2)
def S_Sums_put : FM := fun ds1 o ds2 Q => (ds1.length = 0 ∧ ds2.length = 3) ∧ ∀ v, t_Sums_put (endM ds1.length v Q) (startC 7 ds1 v o ds2)
theorem len_Sums_put : ∀ ds1 o ds2 Q, S_Sums_put ds1 o ds2 Q → ds1.length + (ds2.length + 1) = 4 := fun _ _ _ _ h => by have := h.1; omega
theorem vc_Sums_put : ∀ ds1 o ds2 v Q, S_Sums_put ds1 o ds2 Q → t_Sums_put (endM ds1.length v Q) (startC 7 ds1 v o ds2) := fun _ _ _ v _ h => h.2 v
theorem ok_Sums_put {P : Program} {w : World} {K : PySem.W.Frag} {mg : Str → Option Value} {base : Heap} {B : Bx} (T : Top K mg B.ct) : FnOk P w K mg base CX0 2 T.i_Sums_put.f T.i_Sums_put.fd ["self", "mask", "bit", "taken"] (spM K B S_Sums_put) := by
  refine fn_m (k := 1) (t := t_Sums_put) T.i_Sums_put.fn sc_Sums_put len_Sums_put (fun cdv A outer s H E hr => ?_) vc_Sums_put
  refine psd_cons ?_ ?_
  · refine (psd_asg (pd_borT 0 (pd_meth T.c_Sums T.m_Sums_reduced (r_Sums_reduced T) (hr.mono (by decide)) (pd_var 0) (pad_cons (pd_var 1) (pad_cons (pd_var 2) (pad_cons (pd_var 3) pad_nil))))) (pgd_tup rfl (pgsd_cons (pgd_name (i := 4) sc_Sums_put.nd rfl (by first | exact .inl rfl | exact .inr rfl)) (pgsd_cons (pgd_name (i := 5) sc_Sums_put.nd rfl (by first | exact .inl rfl | exact .inr rfl)) (pgsd_cons (pgd_name (i := 6) sc_Sums_put.nd rfl (by first | exact .inl rfl | exact .inr rfl)) pgsd_nil)))))
  refine psd_cons ?_ ?_
  · refine psd_if (ptd_cmp op_gt_d (pd_var 4) pd_int (by rfl)) ?_ ?_
    · refine psd_cons ?_ ?_
      · refine (psd_dputR (room_u1 hr) (pr_fld T.c_Sums T.s_Sums_its_rows.ex.choose_spec (pr_var (pv 0))) (pd_bits (pd_var 4)) (pd_tup (pad_cons (pd_var 4) (pad_cons (pd_var 5) (pad_cons (pd_var 6) pad_nil)))))
      refine psd_one ?_
      refine (psd_retS pd_int)
    · exact psd_nil
  refine psd_one ?_
  refine (psd_retS (pd_ifE (ptd_cmp (op_eq_d hr.units) (pd_var 5) pd_int (by rfl)) (pd_var 6) pd_int))
theorem r_Sums_put {P : Program} {w : World} {K : PySem.W.Frag} {mg : Str → Option Value} {base : Heap} {B : Bx} (T : Top K mg B.ct) : FnR P w K mg base CX0 2 T.i_Sums_put.f (spM K B S_Sums_put) := fn_r (ok_Sums_put T) T.i_Sums_put.bd
def t_every_meeting : DTS := (dRet (dF (fLc3 (iR1 (dCons (dVar 2) dNil)) (gN 3) dYes (iR1 (dCons (dVar 0) dNil)) (gN 4) dYes (iR1 (dCons (dVar 1) dNil)) (gN 5) dYes (dTup (dCons (dVar 3) (dCons (dVar 4) (dCons (dVar 5) dNil)))) [3, 4, 5] [4, 5] [5])))
def S_every_meeting : FD := fun ds Q => ds.length = 3 ∧ t_every_meeting { nx := fun _ => Q .non, rt := Q } (startD 6 ds)
theorem len_every_meeting : ∀ ds Q, S_every_meeting ds Q → ds.length = 3 := fun _ _ h => h.1
theorem vc_every_meeting : ∀ ds Q, S_every_meeting ds Q → t_every_meeting { nx := fun _ => Q .non, rt := Q } (startD 6 ds) := fun _ _ h => h.2
theorem ok_every_meeting {P : Program} {w : World} {K : PySem.W.Frag} {mg : Str → Option Value} {base : Heap} {B : Bx} (T : Top K mg B.ct) : FnOk P w K mg base CX0 1 T.f_every_meeting.f T.f_every_meeting.fd ["suns", "moons", "rounds"] (spD K B S_every_meeting) := by
  refine fn_d (k := 0) (t := t_every_meeting) T.f_every_meeting.fn sc_every_meeting len_every_meeting (fun cdv A outer s H E hr => ?_) vc_every_meeting
  refine psd_one ?_
  refine (psd_ret (pd_f (pf_lc3 rfl sc_every_meeting.nd ?h3 (blkOk_by (own := [("r", 3), ("i", 4), ("j", 5)]) (by rfl)) (by decide) (vs1 := [4, 5]) (vs2 := [5]) (by decide) (by decide) (by decide) (by decide) (fun _ _ _ _ _ => (pgd_name (i := 3) sc_every_meeting.nd rfl (by first | exact .inl rfl | exact .inr rfl))) (fun _ _ _ _ _ => ptsd_nil) (fun _ _ _ _ _ => (pid_r1 (by rfl) T.n_range (pad_cons (pd_var 0) pad_nil))) (fun _ _ _ _ _ => (pgd_name (i := 4) sc_every_meeting.nd rfl (by first | exact .inl rfl | exact .inr rfl))) (fun _ _ _ _ _ => ptsd_nil) (fun _ _ _ _ _ => (pid_r1 (by rfl) T.n_range (pad_cons (pd_var 1) pad_nil))) (fun _ _ _ _ _ => (pgd_name (i := 5) sc_every_meeting.nd rfl (by first | exact .inl rfl | exact .inr rfl))) (fun _ _ _ _ _ => ptsd_nil) (fun _ _ _ _ _ => ?h4))))
  case h3 => exact (pid_r1 (by rfl) T.n_range (pad_cons (pd_var 2) pad_nil))
  case h4 => exact (pd_tup (pad_cons (pd_var 3) (pad_cons (pd_var 4) (pad_cons (pd_var 5) pad_nil))))
def mask_at_at_7 : DTS := (dAug oIAdd 9 (dOp oAdd (dVar 11) (dVar 12)))
def mask_at_at_6 : DTS := (dSeq (dAug oBiXor 8 (dOp oShl (dC (.int 1)) (dOp oAdd (dVar 9) (dIfE (tBl (dOp oLt (dVar 13) (dVar 11))) (dVar 13) (dOp oAdd (dVar 11) (dOp oMod (dOp oSub (dVar 13) (dVar 11)) (dVar 12)))))))
  mask_at_at_7)
def b_mask_at_1 : DTS := (dSeq (dSet 13 (dDGet (dVar 7) (dVar 10)))
  mask_at_at_6)
def mask_at_at_8 : DTS := (dRet (dVar 8))
def mask_at_at_4 : DTS := (dSeq (dFor (iSeq (dVar 0)) (gT 3 (gsCons (gN 10) (gsCons (gN 11) (gsCons (gN 12) gsNil)))) b_mask_at_1)
  mask_at_at_8)
def mask_at_at_3 : DTS := (dSeq (dAsg (dTup (dCons (dC (.int 0)) (dCons (dC (.int 0)) dNil))) (gT 2 (gsCons (gN 8) (gsCons (gN 9) gsNil))))
  mask_at_at_4)
def mask_at_at_2 : DTS := (dSeq (dSet 7 (dDic [Str.ofString "turns", Str.ofString "others", Str.ofString "rounds", Str.ofString "suns", Str.ofString "moons"] (dCons (dOp oAdd (dOp oMul (dVar 4) (dVar 3)) (dVar 6)) (dCons (dOp oAdd (dOp oMul (dVar 4) (dVar 2)) (dVar 5)) (dCons (dVar 4) (dCons (dVar 5) (dCons (dVar 6) dNil)))))))
  mask_at_at_3)
def t_mask_at : DTS := (dSeq (dAsg (dVar 1) (gT 3 (gsCons (gN 4) (gsCons (gN 5) (gsCons (gN 6) gsNil)))))
  mask_at_at_2)
def S_mask_at : FD := fun ds Q => ds.length = 4 ∧ t_mask_at { nx := fun _ => Q .non, rt := Q } (startD 14 ds)
theorem len_mask_at : ∀ ds Q, S_mask_at ds Q → ds.length = 4 := fun _ _ h => h.1
theorem vc_mask_at : ∀ ds Q, S_mask_at ds Q → t_mask_at { nx := fun _ => Q .non, rt := Q } (startD 14 ds) := fun _ _ h => h.2
theorem ok_mask_at {P : Program} {w : World} {K : PySem.W.Frag} {mg : Str → Option Value} {base : Heap} {B : Bx} (T : Top K mg B.ct) : FnOk P w K mg base CX0 1 T.f_mask_at.f T.f_mask_at.fd ["forms", "meeting", "suns", "moons"] (spD K B S_mask_at) := by
  refine fn_d (k := 0) (t := t_mask_at) T.f_mask_at.fn sc_mask_at len_mask_at (fun cdv A outer s H E hr => ?_) vc_mask_at
  refine psd_cons ?_ ?_
  · refine (psd_asg (pd_var 1) (pgd_tup rfl (pgsd_cons (pgd_name (i := 4) sc_mask_at.nd rfl (by first | exact .inl rfl | exact .inr rfl)) (pgsd_cons (pgd_name (i := 5) sc_mask_at.nd rfl (by first | exact .inl rfl | exact .inr rfl)) (pgsd_cons (pgd_name (i := 6) sc_mask_at.nd rfl (by first | exact .inl rfl | exact .inr rfl)) pgsd_nil)))))
  refine psd_cons ?_ ?_
  · refine (psd_set (i := 7) sc_mask_at.nd rfl (by first | exact .inl rfl | exact .inr rfl) (pd_dic (ppd_cons (pd_bin op_add_d (pd_bin op_mul_d (pd_var 4) (pd_var 3)) (pd_var 6)) (ppd_cons (pd_bin op_add_d (pd_bin op_mul_d (pd_var 4) (pd_var 2)) (pd_var 5)) (ppd_cons (pd_var 4) (ppd_cons (pd_var 5) (ppd_cons (pd_var 6) ppd_nil))))) (by decide) rfl rfl (by intro z; cases z) (by decide) (by decide)))
  refine psd_cons ?_ ?_
  · refine (psd_asg (pd_tup (pad_cons pd_int (pad_cons pd_int pad_nil))) (pgd_tup rfl (pgsd_cons (pgd_name (i := 8) sc_mask_at.nd rfl (by first | exact .inl rfl | exact .inr rfl)) (pgsd_cons (pgd_name (i := 9) sc_mask_at.nd rfl (by first | exact .inl rfl | exact .inr rfl)) pgsd_nil))))
  refine psd_cons ?_ ?_
  · refine psd_for PassesOwn.never rfl (pid_seq (pd_var 0)) (pgd_tup rfl (pgsd_cons (pgd_name (i := 10) sc_mask_at.nd rfl (by first | exact .inl rfl | exact .inr rfl)) (pgsd_cons (pgd_name (i := 11) sc_mask_at.nd rfl (by first | exact .inl rfl | exact .inr rfl)) (pgsd_cons (pgd_name (i := 12) sc_mask_at.nd rfl (by first | exact .inl rfl | exact .inr rfl)) pgsd_nil)))) ?_
    refine psd_cons ?_ ?_
    · refine (psd_set (i := 13) sc_mask_at.nd rfl (by first | exact .inl rfl | exact .inr rfl) (pd_dget (room_u1 hr) (pd_var 7) (pd_var 10) (fun _ _ => rfl)))
    refine psd_cons ?_ ?_
    · refine (psd_aug (i := 8) sc_mask_at.nd rfl (by first | exact .inl rfl | exact .inr rfl) iop_bxor_d (pd_bin op_shl_d pd_int (pd_bin op_add_d (pd_var 9) (pd_ifE (ptd_cmp op_lt_d (pd_var 13) (pd_var 11) (by rfl)) (pd_var 13) (pd_bin op_add_d (pd_var 11) (pd_bin op_mod_d (pd_bin op_sub_d (pd_var 13) (pd_var 11)) (pd_var 12)))))))
    refine psd_one ?_
    refine (psd_aug (i := 9) sc_mask_at.nd rfl (by first | exact .inl rfl | exact .inr rfl) iop_add_d (pd_bin op_add_d (pd_var 11) (pd_var 12)))
  refine psd_one ?_
  refine (psd_ret (pd_var 8))
def t_numbers_of : DTS := (dRet (dTup (dCons (dOp oAdd (dC (.int 1)) (dCall cMaxL (dCons (dF (fLc (iKeysD (dVar 0)) (gT 2 (gsCons (gN 1) (gsCons (gN 2) gsNil))) dYes (dVar 1) [1, 2])) dNil))) (dCons (dOp oAdd (dC (.int 1)) (dCall cMaxL (dCons (dF (fLc (iKeysD (dVar 0)) (gT 2 (gsCons (gN 1) (gsCons (gN 2) gsNil))) dYes (dVar 2) [1, 2])) dNil))) (dCons (dCall cLen (dCons (dDGetK (dVar 0) (dTup (dCons (dC (.int 0)) (dCons (dC (.int 0)) dNil)))) dNil)) dNil)))))
def S_numbers_of : FD := fun ds Q => ds.length = 1 ∧ t_numbers_of { nx := fun _ => Q .non, rt := Q } (startD 3 ds)
theorem len_numbers_of : ∀ ds Q, S_numbers_of ds Q → ds.length = 1 := fun _ _ h => h.1
theorem vc_numbers_of : ∀ ds Q, S_numbers_of ds Q → t_numbers_of { nx := fun _ => Q .non, rt := Q } (startD 3 ds) := fun _ _ h => h.2
theorem ok_numbers_of {P : Program} {w : World} {K : PySem.W.Frag} {mg : Str → Option Value} {base : Heap} {B : Bx} (T : Top K mg B.ct) : FnOk P w K mg base CX0 1 T.f_numbers_of.f T.f_numbers_of.fd ["crossings"] (spD K B S_numbers_of) := by
  refine fn_d (k := 0) (t := t_numbers_of) T.f_numbers_of.fn sc_numbers_of len_numbers_of (fun cdv A outer s H E hr => ?_) vc_numbers_of
  refine psd_one ?_
  refine (psd_ret (pd_tup (pad_cons (pd_bin op_add_d pd_int (pd_callB (call_maxL_d rfl) (by rfl) T.n_max (by decide +kernel) (pad_cons (pd_f (pf_lc rfl sc_numbers_of.nd (pid_keys (pd_var 0)) (blkOk_by (own := [("i", 1), ("j", 2)]) (by rfl)) (by decide) (fun _ _ _ _ _ => (pgd_tup rfl (pgsd_cons (pgd_name (i := 1) sc_numbers_of.nd rfl (by first | exact .inl rfl | exact .inr rfl)) (pgsd_cons (pgd_name (i := 2) sc_numbers_of.nd rfl (by first | exact .inl rfl | exact .inr rfl)) pgsd_nil)))) (fun _ _ _ _ _ => ptsd_nil) (fun _ _ _ _ _ => (pd_var 1)))) pad_nil))) (pad_cons (pd_bin op_add_d pd_int (pd_callB (call_maxL_d rfl) (by rfl) T.n_max (by decide +kernel) (pad_cons (pd_f (pf_lc rfl sc_numbers_of.nd (pid_keys (pd_var 0)) (blkOk_by (own := [("i", 1), ("j", 2)]) (by rfl)) (by decide) (fun _ _ _ _ _ => (pgd_tup rfl (pgsd_cons (pgd_name (i := 1) sc_numbers_of.nd rfl (by first | exact .inl rfl | exact .inr rfl)) (pgsd_cons (pgd_name (i := 2) sc_numbers_of.nd rfl (by first | exact .inl rfl | exact .inr rfl)) pgsd_nil)))) (fun _ _ _ _ _ => ptsd_nil) (fun _ _ _ _ _ => (pd_var 2)))) pad_nil))) (pad_cons (pd_callB call_len_d (by rfl) T.n_len (by decide +kernel) (pad_cons (pd_dgetK (room_u1 hr) (pd_var 0) (pd_tup (pad_cons pd_int (pad_cons pd_int pad_nil))) (fun _ _ => rfl)) pad_nil)) pad_nil)))))
def sums_of_at_6 : DTS := (dIfS (tBl (dOp oGt (dVar 11) (dC (.int 0)))) (dRetP 5 (dCons (dVar 11) dNil)) dNext)
def sums_of_at_5 : DTS := (dSeq (dSetM 11 (mMeth 5 9 S_Sums_put (dCons (dCall S_mask_at (dCons (dVar 1) (dCons (dTup (dCons (dVar 7) (dCons (dVar 8) (dCons (dVar 9) dNil)))) (dCons (dVar 2) (dCons (dVar 3) dNil))))) (dCons (dVar 10) (dCons (dOp oShl (dC (.int 1)) (dVar 6)) dNil)))))
  sums_of_at_6)
def b_sums_of_1 : DTS := (dSeq (dSet 10 (dCall cInt (dCons (dOp oIx (dDGetK (dVar 0) (dTup (dCons (dVar 8) (dCons (dVar 9) dNil)))) (dVar 7)) dNil)))
  sums_of_at_5)
def sums_of_at_8 : DTS := (dRetP 5 (dCons (dC (.int 0)) dNil))
def sums_of_at_3 : DTS := (dSeq (dFor (iEn (dCons (dCall S_every_meeting (dCons (dVar 2) (dCons (dVar 3) (dCons (dVar 4) dNil)))) dNil)) (gT 2 (gsCons (gN 6) (gsCons (gT 3 (gsCons (gN 7) (gsCons (gN 8) (gsCons (gN 9) gsNil)))) gsNil))) b_sums_of_1)
  sums_of_at_8)
def sums_of_at_2 : DTS := (dSeq (dSetT 5 (oMake S_Sums___init__ dNil))
  sums_of_at_3)
def t_sums_of : DTS := (dSeq (dAsg (dCall S_numbers_of (dCons (dVar 0) dNil)) (gT 3 (gsCons (gN 2) (gsCons (gN 3) (gsCons (gN 4) gsNil)))))
  sums_of_at_2)
def S_sums_of : FP := fun ds Q => ds.length = 2 ∧ t_sums_of (endP Q) (startD 12 ds)
theorem len_sums_of : ∀ ds Q, S_sums_of ds Q → ds.length = 2 := fun _ _ h => h.1
theorem vc_sums_of : ∀ ds Q, S_sums_of ds Q → t_sums_of (endP Q) (startD 12 ds) := fun _ _ h => h.2
theorem ok_sums_of {P : Program} {w : World} {K : PySem.W.Frag} {mg : Str → Option Value} {base : Heap} {B : Bx} (T : Top K mg B.ct) : FnOk P w K mg base CX0 3 T.f_sums_of.f T.f_sums_of.fd ["crossings", "forms"] (spP K B S_sums_of) := by
  refine fn_p (k := 2) (t := t_sums_of) T.f_sums_of.fn sc_sums_of len_sums_of (fun cdv A outer s H E hr => ?_) vc_sums_of
  refine psd_cons ?_ ?_
  · refine (psd_asg (pd_callD T.f_numbers_of (ok_numbers_of T) hr (by decide) (by rfl) (pad_cons (pd_var 0) pad_nil)) (pgd_tup rfl (pgsd_cons (pgd_name (i := 2) sc_sums_of.nd rfl (by first | exact .inl rfl | exact .inr rfl)) (pgsd_cons (pgd_name (i := 3) sc_sums_of.nd rfl (by first | exact .inl rfl | exact .inr rfl)) (pgsd_cons (pgd_name (i := 4) sc_sums_of.nd rfl (by first | exact .inl rfl | exact .inr rfl)) pgsd_nil)))))
  refine psd_cons ?_ ?_
  · refine (psd_setT (i := 5) sc_sums_of.nd rfl (by first | exact .inl rfl | exact .inr rfl) (po_make0 T.mk_Sums (r_Sums___init__ T) (hr.mono (by decide)) (by rfl) T.g_Sums))
  refine psd_cons ?_ ?_
  · refine psd_for PassesOwn.never rfl (pid_enum (by rfl) T.n_enumerate ?h2) (pgd_tup rfl (pgsd_cons (pgd_name (i := 6) sc_sums_of.nd rfl (by first | exact .inl rfl | exact .inr rfl)) (pgsd_cons (pgd_tup rfl (pgsd_cons (pgd_name (i := 7) sc_sums_of.nd rfl (by first | exact .inl rfl | exact .inr rfl)) (pgsd_cons (pgd_name (i := 8) sc_sums_of.nd rfl (by first | exact .inl rfl | exact .inr rfl)) (pgsd_cons (pgd_name (i := 9) sc_sums_of.nd rfl (by first | exact .inl rfl | exact .inr rfl)) pgsd_nil)))) pgsd_nil))) ?_
    case h2 => exact (pad_cons (pd_callD T.f_every_meeting (ok_every_meeting T) hr (by decide) (by rfl) (pad_cons (pd_var 2) (pad_cons (pd_var 3) (pad_cons (pd_var 4) pad_nil)))) pad_nil)
    refine psd_cons ?_ ?_
    · refine (psd_set (i := 10) sc_sums_of.nd rfl (by first | exact .inl rfl | exact .inr rfl) (pd_callTy call_int_d (by rfl) T.n_int (by decide +kernel) (pad_cons (pd_ix ix_d (pd_dgetK (room_u1 hr) (pd_var 0) (pd_tup (pad_cons (pd_var 8) (pad_cons (pd_var 9) pad_nil))) (fun _ _ => rfl)) (pd_var 7)) pad_nil)))
    refine psd_cons ?_ ?_
    · refine (psd_setM (i := 11) sc_sums_of.nd rfl (by first | exact .inl rfl | exact .inr rfl) (pm_meth T.c_Sums T.m_Sums_put (r_Sums_put T) (hr.mono (by decide)) (pv 5) (pad_cons (pd_callD T.f_mask_at (ok_mask_at T) hr (by decide) (by rfl) (pad_cons (pd_var 1) (pad_cons (pd_tup (pad_cons (pd_var 7) (pad_cons (pd_var 8) (pad_cons (pd_var 9) pad_nil)))) (pad_cons (pd_var 2) (pad_cons (pd_var 3) pad_nil))))) (pad_cons (pd_var 10) (pad_cons (pd_bin op_shl_d pd_int (pd_var 6)) pad_nil)))))
    refine psd_one ?_
    refine psd_if (ptd_cmp op_gt_d (pd_var 11) pd_int (by rfl)) ?_ ?_
    · refine psd_one ?_
      refine (psd_retP (pv 5) (pad_cons (pd_var 11) pad_nil))
    · exact psd_nil
  refine psd_one ?_
  refine (psd_retP (pv 5) (pad_cons pd_int pad_nil))
def many_told_at_2 : DTS := (dFrz 2 (dRet (dIfE (tBl (dOp oGt (dVar 3) (dC (.int 0)))) (dC (.int 0)) (dOp oShl (dC (.int 1)) (dOp oSub (dCall S_many_characters (dCons (dVar 1) dNil)) (dMeth 9 S_Sums_rank (dVar 2) dNil))))))
def t_many_told : DTS := (dSeq (dUnpP 2 3 (pCall S_sums_of (dCons (dVar 0) (dCons (dVar 1) dNil))))
  many_told_at_2)
def S_many_told : FD := fun ds Q => ds.length = 2 ∧ t_many_told { nx := fun _ => Q .non, rt := Q } (startD 4 ds)
theorem len_many_told : ∀ ds Q, S_many_told ds Q → ds.length = 2 := fun _ _ h => h.1
theorem vc_many_told : ∀ ds Q, S_many_told ds Q → t_many_told { nx := fun _ => Q .non, rt := Q } (startD 4 ds) := fun _ _ h => h.2
theorem ok_many_told {P : Program} {w : World} {K : PySem.W.Frag} {mg : Str → Option Value} {base : Heap} {B : Bx} (T : Top K mg B.ct) : FnOk P w K mg base CX0 4 T.f_many_told.f T.f_many_told.fd ["crossings", "forms"] (spD K B S_many_told) := by
  refine fn_d (k := 3) (t := t_many_told) T.f_many_told.fn sc_many_told len_many_told (fun cdv A outer s H E hr => ?_) vc_many_told
  refine psd_cons ?_ ?_
  · refine (psd_unpP (i := 2) (j := 3) rfl sc_many_told.nd rfl rfl (by first | exact .inl rfl | exact .inr rfl) (by first | exact .inl rfl | exact .inr rfl) (pp_call T.f_sums_of (ok_sums_of T) hr (by decide) (by rfl) (pad_cons (pd_var 0) (pad_cons (pd_var 1) pad_nil))))
  refine psds_frz 2 ?_
  refine psd_one ?_
  refine (psd_ret (pd_ifE (ptd_cmp op_gt_d (pd_var 3) pd_int (by rfl)) pd_int (pd_bin op_shl_d pd_int (pd_bin op_sub_d (pd_callD T.f_many_characters (ok_many_characters T) hr (by decide) (by rfl) (pad_cons (pd_var 1) pad_nil)) (pd_meth0 T.c_Sums T.m_Sums_rank (r_Sums_rank T) (hr.mono (by decide)) (pd_var 2))))))
def isBit (c : Nat) : Bool := c == 48 || c == 49
def bitsOk (x : Str) : Bool := x.cps.toList.all isBit
def okW (e a : Str) : Prop := bitsOk e = true ∧ bitsOk a = true ∧ 0 < a.length ∧ e.length ≤ 1000 ∧ a.length ≤ 1000
def S_are_bits : FD := fun ds Q => match ds with
  | [.str x] => x.length ≤ sizeLine ∧ Q (.bl (bitsOk x))
  | _ => False
theorem len_are_bits : ∀ ds Q, S_are_bits ds Q → ds.length = 1
  | [.str _], _, _ => rfl
def t_are_bits : DTS := (dRet (dAn (dIsi "str" (dVar 0)) (dCall cAll (dCons (dF (fLc (iSeq (dVar 0)) (gN 1) dYes (dOp (oIn false) (dVar 1) (dC (.str (Str.ofString "01")))) [1])) dNil))))
theorem bits_codes {cs : List Nat} (h : cs.all isBit = true) : bitsOk (ofCodes cs) = true := by
  unfold bitsOk
  rw [tl_codes]
  exact h
theorem in01 (c : Nat) : decide (c ∈ (Str.ofString "01").cps.toList) = isBit c := by
  have e : (Str.ofString "01").cps.toList = [48, 49] := by decide +kernel
  rw [e]
  by_cases h1 : c = 48
  · subst h1; rfl
  · by_cases h2 : c = 49
    · subst h2; rfl
    · simp [isBit, h1, h2]
theorem vc_are_bits : ∀ ds Q, S_are_bits ds Q → t_are_bits { nx := fun _ => Q .non, rt := Q } (startD [("thing" : Str), "sign"].length ds)
  | [.str x], Q, h => by
    simp only [S_are_bits] at h
    simp only [t_are_bits, startD, startI, endI, List.map_cons, List.map_nil, List.length_cons, List.length_nil, Nat.reduceAdd, Nat.reduceSub, Nat.sub_self, List.replicate, List.cons_append, List.nil_append, List.append_nil, List.getElem?_cons_zero, List.getElem?_cons_succ, List.set_cons_zero, List.set_cons_succ, dVar, dC, dNil, dCons, dTup, fLst, dF, dOp, dUn, tBl, tAn, tOrr, tNt, dAn, dOr, dNt, dIfE, dCall, dNext, dSeq, dRet, dRetN, dDrop, dIfS, dBrk, dCnt, gN, gsNil, gsCons, gT, gL, dAsg, dSet, dPar, iSeq, iR1, iR2, dFor, fLc, wipeD, dYes, dStar, dMt, isT, dIsi, pureD, dFld, dProp, isO, dMeth, dMake, dCallO, dSelf, dSelf2, oNeg, oI, oIc, oSub, oMod, oDiv, oLt, oLe, oGt, oGe, oAdd, oMul, oIx, oEq, oNe, oIn, oSl, dSl, noP, aP, cLen, cInt, cAbs, cMax, cAll, cAny, cRepr, cTuple, mJoin, mCount, oOwn, oOwn1, oOwnNe, decide_true, decide_false, Bool.false_eq_true, if_true, if_false, beq_self_eq_true, true_and, and_true, atI0, atI1, atI2, atI3, atI4, atI5, atI6, atI7, Nat.reduceLeDiff, decide_true, gt_iff_lt]
    rw [if_pos (by rfl)]
    refine ⟨by rw [chars_len]; exact h.1, lc_map (fun d => match d with | .str w => .bl (match w.cps.toList with | [c] => isBit c | _ => false) | _ => .non) _ _ (fun d hd R q => ?_) ?_⟩
    · obtain ⟨c, hc, rfl⟩ := mem_chars hd
      simp only [startD, startI, endI, List.map_cons, List.map_nil, List.length_cons, List.length_nil, Nat.reduceAdd, Nat.reduceSub, Nat.sub_self, List.replicate, List.cons_append, List.nil_append, List.append_nil, List.getElem?_cons_zero, List.getElem?_cons_succ, List.set_cons_zero, List.set_cons_succ, dVar, dC, dNil, dCons, dTup, fLst, dF, dOp, dUn, tBl, tAn, tOrr, tNt, dAn, dOr, dNt, dIfE, dCall, dNext, dSeq, dRet, dRetN, dDrop, dIfS, dBrk, dCnt, gN, gsNil, gsCons, gT, gL, dAsg, dSet, dPar, iSeq, iR1, iR2, dFor, fLc, wipeD, dYes, dStar, dMt, isT, dIsi, pureD, dFld, dProp, isO, dMeth, dMake, dCallO, dSelf, dSelf2, oNeg, oI, oIc, oSub, oMod, oDiv, oLt, oLe, oGt, oGe, oAdd, oMul, oIx, oEq, oNe, oIn, oSl, dSl, noP, aP, cLen, cInt, cAbs, cMax, cAll, cAny, cRepr, cTuple, mJoin, mCount, oOwn, oOwn1, oOwnNe, decide_true, decide_false, Bool.false_eq_true, if_true, if_false, beq_self_eq_true, true_and, and_true, atI0, atI1, atI2, atI3, atI4, atI5, atI6, atI7, Nat.reduceLeDiff, decide_true, gt_iff_lt, in01] at q ⊢
      exact q
    · have e : (chars x).map (fun d => match d with | .str w => D.bl (match w.cps.toList with | [c] => isBit c | _ => false) | _ => .non) = x.cps.toList.map fun c => .bl (isBit c) := by
        unfold chars
        rw [List.map_map]
        rfl
      rw [e, List.nil_append, bls_map']
      have e2 : (x.cps.toList.map isBit).all id = bitsOk x := by rw [List.all_map]; rfl
      simp only [e2]
      exact h.2
theorem ok_are_bits {P : Program} {w : World} {K : PySem.W.Frag} {mg : Str → Option Value} {base : Heap} {B : Bx} (T : Top K mg B.ct) : FnOk P w K mg base CX0 1 T.f_are_bits.f T.f_are_bits.fd ["thing"] (spD K B S_are_bits) := by
  refine fn_d (k := 0) (t := t_are_bits) T.f_are_bits.fn sc_are_bits len_are_bits (fun cdv A outer s H E hr => ?_) vc_are_bits
  refine psd_one ?_
  refine (psd_ret (pd_and (pd_isi known_str (by rfl) T.n_isinstance (by rfl) T.n_str (by decide +kernel) (pd_var 0)) (pd_1 (pd_callB (call_all_d rfl) (by rfl) T.n_all (by decide +kernel) (pad_cons (pd_f (pf_lc rfl sc_are_bits.nd (pid_seq (pd_var 0)) (blkOk_by (own := [("sign", 1)]) (by rfl)) (by decide) (fun _ _ _ _ _ => (pgd_name (i := 1) sc_are_bits.nd rfl (by first | exact .inl rfl | exact .inr rfl))) (fun _ _ _ _ _ => ptsd_nil) (fun _ _ _ _ _ => (pd_cmp op_in_d (pd_var 1) pd_str (by rfl))))) pad_nil)))))
def S_Word___init__ : FI := fun ds Q => match ds with
  | [.str e, .str a] => okW e a ∧ Q [.str a, .str e]
  | _ => False
theorem len_Word___init__ : ∀ ds Q, S_Word___init__ ds Q → ds.length + 1 = 3
  | [.str _, .str _], _, _ => rfl
def t_Word___init__ : DTS := (dSeq (dIfS (tNt (tBl (dCall S_are_bits (dCons (dVar 1) dNil)))) dNever dNext)
  (dSeq (dIfS (tOrr (tNt (tBl (dCall S_are_bits (dCons (dVar 2) dNil)))) (tBl (dOp oEq (dVar 2) (dC (.str (Str.ofString "")))))) dNever dNext)
  (dSelf2 0 1 0 0 (dTup (dCons (dVar 1) (dCons (dVar 2) dNil))))))
theorem vc_Word___init__ : ∀ x ds Q, S_Word___init__ ds Q → t_Word___init__ (endI x 0 Q) (startI [("self" : Str), "early", "again"].length x 0 ds)
  | x, [.str e, .str a], Q, h => by
    obtain ⟨⟨h1, h2, h3, h4, h5⟩, hq⟩ := h
    simp only [t_Word___init__, startD, startI, endI, List.map_cons, List.map_nil, List.length_cons, List.length_nil, Nat.reduceAdd, Nat.reduceSub, Nat.sub_self, List.replicate, List.cons_append, List.nil_append, List.append_nil, List.getElem?_cons_zero, List.getElem?_cons_succ, List.set_cons_zero, List.set_cons_succ, dVar, dC, dNil, dCons, dTup, fLst, dF, dOp, dUn, tBl, tAn, tOrr, tNt, dAn, dOr, dNt, dIfE, dCall, dNext, dSeq, dRet, dRetN, dDrop, dIfS, dBrk, dCnt, gN, gsNil, gsCons, gT, gL, dAsg, dSet, dPar, iSeq, iR1, iR2, dFor, fLc, wipeD, dYes, dStar, dMt, isT, dIsi, pureD, dFld, dProp, isO, dMeth, dMake, dCallO, dSelf, dSelf2, oNeg, oI, oIc, oSub, oMod, oDiv, oLt, oLe, oGt, oGe, oAdd, oMul, oIx, oEq, oNe, oIn, oSl, dSl, noP, aP, cLen, cInt, cAbs, cMax, cAll, cAny, cRepr, cTuple, mJoin, mCount, oOwn, oOwn1, oOwnNe, decide_true, decide_false, Bool.false_eq_true, if_true, if_false, beq_self_eq_true, true_and, and_true, atI0, atI1, atI2, atI3, atI4, atI5, atI6, atI7, Nat.reduceLeDiff, decide_true, gt_iff_lt, S_are_bits]
    refine ⟨sz_w h4, ?_⟩
    rw [h1, h2]
    simp only [startD, startI, endI, List.map_cons, List.map_nil, List.length_cons, List.length_nil, Nat.reduceAdd, Nat.reduceSub, Nat.sub_self, List.replicate, List.cons_append, List.nil_append, List.append_nil, List.getElem?_cons_zero, List.getElem?_cons_succ, List.set_cons_zero, List.set_cons_succ, dVar, dC, dNil, dCons, dTup, fLst, dF, dOp, dUn, tBl, tAn, tOrr, tNt, dAn, dOr, dNt, dIfE, dCall, dNext, dSeq, dRet, dRetN, dDrop, dIfS, dBrk, dCnt, gN, gsNil, gsCons, gT, gL, dAsg, dSet, dPar, iSeq, iR1, iR2, dFor, fLc, wipeD, dYes, dStar, dMt, isT, dIsi, pureD, dFld, dProp, isO, dMeth, dMake, dCallO, dSelf, dSelf2, oNeg, oI, oIc, oSub, oMod, oDiv, oLt, oLe, oGt, oGe, oAdd, oMul, oIx, oEq, oNe, oIn, oSl, dSl, noP, aP, cLen, cInt, cAbs, cMax, cAll, cAny, cRepr, cTuple, mJoin, mCount, oOwn, oOwn1, oOwnNe, decide_true, decide_false, Bool.false_eq_true, if_true, if_false, beq_self_eq_true, true_and, and_true, atI0, atI1, atI2, atI3, atI4, atI5, atI6, atI7, Nat.reduceLeDiff, decide_true, gt_iff_lt, Bool.not_true]
    refine ⟨sz_w h5, ?_⟩
    have e9 : decide (a = Str.ofString "") = false := by
      refine decide_eq_false fun z => ?_
      have : (Str.ofString "").length = 0 := by decide +kernel
      rw [z] at h3
      omega
    rw [e9]
    exact ⟨rfl, [.str a, .str e], rfl, by simp, hq⟩
theorem ok_Word___init__ {P : Program} {w : World} {K : PySem.W.Frag} {mg : Str → Option Value} {base : Heap} {B : Bx} (T : Top K mg B.ct) : FnOk P w K mg base CX0 2 T.i_Word___init__.f T.i_Word___init__.fd ["self", "early", "again"] (spI K B 0 S_Word___init__) := by
  refine fn_init (k := 1) (t := t_Word___init__) T.i_Word___init__.fn sc_Word___init__ len_Word___init__ (by decide) (fun cdv A outer s H E hr => ?_) vc_Word___init__
  refine psd_cons ?_ ?_
  · refine psd_if (ptd_not (ptd_val (pd_callD T.f_are_bits (ok_are_bits T) hr (by decide) (by rfl) (pad_cons (pd_var 1) pad_nil)))) ?_ ?_
    · refine psd_one ?_
      refine psd_never
    · exact psd_nil
  refine psd_cons ?_ ?_
  · refine psd_if (pwd_or (ptd_not (ptd_val (pd_callD T.f_are_bits (ok_are_bits T) hr (by decide) (by rfl) (pad_cons (pd_var 2) pad_nil)))) (pwd_or1 (ptd_cmp (op_eq_d hr.units) (pd_var 2) pd_str (by rfl)))).pt ?_ ?_
    · refine psd_one ?_
      refine psd_never
    · exact psd_nil
  refine psd_one ?_
  refine (psd_self2D rfl T.c_Word T.s_Word_its_early T.s_Word_its_again (pv 0) (pv 0) (pd_tup (pad_cons (pd_var 1) (pad_cons (pd_var 2) pad_nil))))
theorem r_Word___init__ {P : Program} {w : World} {K : PySem.W.Frag} {mg : Str → Option Value} {base : Heap} {B : Bx} (T : Top K mg B.ct) : FnR P w K mg base CX0 2 T.i_Word___init__.f (spI K B 0 S_Word___init__) := fn_r (ok_Word___init__ T) T.i_Word___init__.bd
def b_told_back_1 : DTS := (dAugM oIAdd 4 (mIfe (mtCmp oGt (mMeth 2 9 S_Sums_put (dCons (dOp oShl (dC (.int 1)) (dVar 6)) (dCons (dC (.int 0)) (dCons (dOp oShl (dC (.int 1)) (dOp oAdd (dVar 5) (dVar 6))) dNil)))) (dC (.int 0))) (mD (dC (.str (Str.ofString "1")))) (mD (dC (.str (Str.ofString "0"))))))
def told_back_at_10 : DTS := (dAug oIAdd 8 (dOp oAdd (dVar 10) (dVar 11)))
def b_told_back_2 : DTS := (dSeq (dAppR (rVar 7) (dMake 0 S_Word___init__ (dCons (dSl (dVar 4) (aP (dVar 8)) (aP (dOp oAdd (dVar 8) (dVar 10)))) (dCons (dSl (dVar 4) (aP (dOp oAdd (dVar 8) (dVar 10))) (aP (dOp oAdd (dOp oAdd (dVar 8) (dVar 10)) (dVar 11)))) dNil))))
  told_back_at_10)
def told_back_at_11 : DTS := (dRetO 7)
def told_back_at_8 : DTS := (dSeq (dFor (iSeq (dVar 1)) (gT 3 (gsCons (gN 9) (gsCons (gN 10) (gsCons (gN 11) gsNil)))) b_told_back_2)
  told_back_at_11)
def told_back_at_7 : DTS := (dSeq (dPar2 7 8 (oCons (oF (fLst dNil)) (oCons (oD (dC (.int 0))) oNil)))
  told_back_at_8)
def told_back_at_5 : DTS := (dSeq (dFor (iR1 (dCons (dCall S_many_characters (dCons (dVar 1) dNil)) dNil)) (gN 6) b_told_back_1)
  told_back_at_7)
def told_back_at_4 : DTS := (dSeq (dPar 4 5 (dCons (dC (.str (Str.ofString ""))) (dCons (dOp oMul (dCall cLenD (dCons (dVar 0) dNil)) (dCall cLen (dCons (dDGetK (dVar 0) (dTup (dCons (dC (.int 0)) (dCons (dC (.int 0)) dNil)))) dNil))) dNil)))
  told_back_at_5)
def told_back_at_2 : DTS := (dSeq (dIfS (tBl (dOp oGt (dVar 3) (dC (.int 0)))) (dRet (dC .non)) dNext)
  told_back_at_4)
def t_told_back : DTS := (dSeq (dUnpP 2 3 (pCall S_sums_of (dCons (dVar 0) (dCons (dVar 1) dNil))))
  told_back_at_2)
def S_told_back : FO := fun ds Q => ds.length = 2 ∧ t_told_back { nx := fun _ => Q (.sh .non), rt := fun d => Q (.sh d), ro := Q } (startD 12 ds)
theorem len_told_back : ∀ ds Q, S_told_back ds Q → ds.length = 2 := fun _ _ h => h.1
theorem vc_told_back : ∀ ds Q, S_told_back ds Q → t_told_back { nx := fun _ => Q (.sh .non), rt := fun d => Q (.sh d), ro := Q } (startD 12 ds) := fun _ _ h => h.2
theorem ok_told_back {P : Program} {w : World} {K : PySem.W.Frag} {mg : Str → Option Value} {base : Heap} {B : Bx} (T : Top K mg B.ct) : FnOk P w K mg base CX0 4 T.f_told_back.f T.f_told_back.fd ["crossings", "forms"] (spO K B S_told_back) := by
  refine fn_o (k := 3) (t := t_told_back) T.f_told_back.fn sc_told_back len_told_back (fun cdv A outer s H E hr => ?_) vc_told_back
  refine psd_cons ?_ ?_
  · refine (psd_unpP (i := 2) (j := 3) rfl sc_told_back.nd rfl rfl (by first | exact .inl rfl | exact .inr rfl) (by first | exact .inl rfl | exact .inr rfl) (pp_call T.f_sums_of (ok_sums_of T) hr (by decide) (by rfl) (pad_cons (pd_var 0) (pad_cons (pd_var 1) pad_nil))))
  refine psd_cons ?_ ?_
  · refine psd_if (ptd_cmp op_gt_d (pd_var 3) pd_int (by rfl)) ?_ ?_
    · refine psd_one ?_
      refine (psd_ret pd_non)
    · exact psd_nil
  refine psd_cons ?_ ?_
  · refine (psd_par (i := 4) (j := 5) rfl sc_told_back.nd rfl rfl (by decide) rfl rfl (pad_cons pd_str (pad_cons (pd_bin op_mul_d (pd_callB call_lenDD (by rfl) T.n_len (by decide +kernel) (pad_cons (pd_var 0) pad_nil)) (pd_callB call_len_d (by rfl) T.n_len (by decide +kernel) (pad_cons (pd_dgetK (room_u1 hr) (pd_var 0) (pd_tup (pad_cons pd_int (pad_cons pd_int pad_nil))) (fun _ _ => rfl)) pad_nil))) pad_nil)) (by rfl))
  refine psd_cons ?_ ?_
  · refine psd_for PassesOwn.never rfl (pid_r1 (by rfl) T.n_range ?h2) (pgd_name (i := 6) sc_told_back.nd rfl (by first | exact .inl rfl | exact .inr rfl)) ?_
    case h2 => exact (pad_cons (pd_callD T.f_many_characters (ok_many_characters T) hr (by decide) (by rfl) (pad_cons (pd_var 1) pad_nil)) pad_nil)
    refine psd_one ?_
    refine (psd_augM (i := 4) sc_told_back.nd rfl (by first | exact .inl rfl | exact .inr rfl) iop_add_d (pm_ife (pmt_cmp op_gt_d (pm_meth T.c_Sums T.m_Sums_put (r_Sums_put T) (hr.mono (by decide)) (pv 2) (pad_cons (pd_bin op_shl_d pd_int (pd_var 6)) (pad_cons pd_int (pad_cons (pd_bin op_shl_d pd_int (pd_bin op_add_d (pd_var 5) (pd_var 6))) pad_nil)))) pd_int (by rfl)) (pm_d pd_str) (pm_d pd_str)))
  refine psd_cons ?_ ?_
  · refine (psd_par2 (i := 7) (j := 8) rfl sc_told_back.nd rfl rfl (by decide) rfl rfl (pao_cons (po_f (pf_lst pad_nil)) (pao_cons (po_d pd_int) pao_nil)) (by rfl))
  refine psd_cons ?_ ?_
  · refine psd_for PassesOwn.never rfl (pid_seq (pd_var 1)) (pgd_tup rfl (pgsd_cons (pgd_name (i := 9) sc_told_back.nd rfl (by first | exact .inl rfl | exact .inr rfl)) (pgsd_cons (pgd_name (i := 10) sc_told_back.nd rfl (by first | exact .inl rfl | exact .inr rfl)) (pgsd_cons (pgd_name (i := 11) sc_told_back.nd rfl (by first | exact .inl rfl | exact .inr rfl)) pgsd_nil)))) ?_
    refine psd_cons ?_ ?_
    · refine (psd_appR (pr_var (pv 7)) (pd_make T.mk_Word (r_Word___init__ T) (hr.mono (by decide)) (by rfl) T.g_Word (pad_cons (pd_slice (pd_var 4) (pod_some (pd_var 8)) (pod_some (pd_bin op_add_d (pd_var 8) (pd_var 10)))) (pad_cons (pd_slice (pd_var 4) (pod_some (pd_bin op_add_d (pd_var 8) (pd_var 10))) (pod_some (pd_bin op_add_d (pd_bin op_add_d (pd_var 8) (pd_var 10)) (pd_var 11)))) pad_nil))))
    refine psd_one ?_
    refine (psd_aug (i := 8) sc_told_back.nd rfl (by first | exact .inl rfl | exact .inr rfl) iop_add_d (pd_bin op_add_d (pd_var 10) (pd_var 11)))
  refine psd_one ?_
  refine (psd_retO (pv 7))
def absI (i : Int) : Int := if i < 0 then -i else i
def spBag (K : PySem.W.Frag) : Sp := fun vs H P _ => ∃ (a : Addr) (ns : List Int), vs = [.ref a] ∧ SqL K H a (ns.map V.int) ∧ ns.length ≤ 63 ∧
  ∀ b L H2, H b = none → H L = none → L ≠ b → Ex H H2 → H2 b = some (.lst [.int 0, .int 1234567891, .int 0, .ref L]) → H2 L = some (.lst ((ns.map absI).map V.int)) → P (.ref b) H2
theorem ok__law_bag {P : Program} {w : World} {K : PySem.W.Frag} {mg : Str → Option Value} {base : Heap} {ct : Nat → Addr} (T : Top K mg ct) : FnOk P w K mg base CX0 1 T.f__law_bag.f T.f__law_bag.fd ["_law_script"] (spBag K) := by
  refine T.f__law_bag.fn.ok sc__law_bag (fun vs H Q E h => ?_) (fun cdv A outer s H vs Q E hr h => ?_)
  · obtain ⟨a, ns, rfl, _⟩ := h
    rfl
  obtain ⟨a, ns, rfl, hS, hl, q⟩ := h
  refine ⟨_, pss_one (ps_ret (pe_lst (pa_cons pe_int (pa_cons pe_int (pa_cons pe_int (pa_cons (pe_lc (own := [("_law_cell", 1)]) (g := gName 1) (tt := tYes) rfl sc__law_bag.nd (pi_list (pe_slice sl_list (pv 0) po_none (po_some pe_int)))
    (blkOk_by (by rfl)) (fun _ _ _ _ _ => pg_name (i := 1) sc__law_bag.nd rfl (.inl rfl)) (fun _ _ _ _ _ => pts_nil) (fun _ _ _ _ _ => pe_callB call_abs (by rfl) T.n_abs (by decide +kernel) (pa_cons (pv 1) pa_nil))) pa_nil)))))), ?_⟩
  have hcut : cutV (ns.map V.int) none (some 63) = ns.map V.int := by
    show DL.cut (ns.map V.int) none (some ((63 : Nat) : Int)) = _
    rw [cut_to]
    exact List.take_of_length_le (by rw [List.length_map]; exact hl)
  have ev : EvL (tSl (rSlL K) (tVar 0) tNoPart (tPart (tC (.int 63)))) [some (.ref a), none] H (ns.map V.int) := by
    have := el_sl (K := K) (ev_var (σ := [some (.ref a), none]) (H := H) (i := 0) (v := .ref a) rfl) eo_none (eo_some (ev_c (v := .int 63))) hS
    rw [hcut] at this
    exact this
  have key := el_lcNL (K := K) (j := 1) (vs := [1]) (t := tYes) (te := tCB (fun xs H Q => ∃ i, xs = [.int i] ∧ Q (.int (if i < 0 then -i else i)) H) (tCons (tVar 1) tNil)) (fun _ => true) (fun i => .int (absI (ns.getD i 0))) ev (by rw [List.length_map]; omega) (fun x => rfl)
    (fun i x H1 _ _ H2 _ R r => r H2 (Ex.refl _)) (fun i x H1 _ hx _ H2 _ R r => by
      rw [List.getElem?_map] at hx
      cases e : ns[i]? with
      | none => rw [e] at hx; cases hx
      | some m =>
        rw [e] at hx
        cases hx
        refine ⟨.int m, rfl, m, rfl, ?_⟩
        have e2 : absI (ns.getD i 0) = if m < 0 then -m else m := by
          rw [List.getD_eq_getElem?_getD, e]
          rfl
        rw [← e2]
        exact r H2 (Ex.refl _))
  have e3 : given (ns.map V.int).length (fun _ => true) (fun i => V.int (absI (ns.getD i 0))) = (ns.map absI).map V.int := by
    unfold given
    rw [List.filter_eq_self.mpr (fun _ _ => rfl), List.map_map]
    apply List.ext_getElem?
    intro i
    rw [List.getElem?_map, List.getElem?_map, List.length_map]
    by_cases hi : i < ns.length
    · rw [List.getElem?_range hi, List.getElem?_eq_getElem hi]
      show some (V.int (absI (ns.getD i 0))) = some (V.int (absI ns[i]))
      rw [List.getD_eq_getElem?_getD, List.getElem?_eq_getElem hi]
      rfl
    · rw [List.getElem?_eq_none_iff.mpr (by rw [List.length_range]; omega), List.getElem?_eq_none_iff.mpr (by omega)]
      rfl
  rw [e3] at key
  have fin := key H (Ex.refl H) (fun x H1 => [V.int 0, V.int 1234567891, V.int 0, x].length ≤ sizeLine ∧ ∀ p, H1 p = none → Q (.ref p) (upd H1 p (.lst [V.int 0, V.int 1234567891, V.int 0, x]))) (fun L H1 hL e1 h1 => ⟨by show 4 ≤ sizeLine; decide, fun b hb => q b L _ (fresh_back e1 hb) hL (ne_of_none h1 hb) (e1.trans (Ex.new hb)) upd_same (by rw [upd_ne (ne_of_none h1 hb)]; exact h1)⟩)
  exact fin
def b__law_my_crossings_1 : DTS := (dDPutR (rVar 4) (dTup (dCons (dVar 5) (dCons (dVar 6) dNil))) (dStr3 (dVar 0) (aP (dOp oAdd (dOp oMul (dVar 5) (dVar 2)) (dVar 6))) noP (aP (dOp oMul (dVar 1) (dVar 2)))))
def b__law_my_crossings_2 : DTS := (dFor (iR1 (dCons (dVar 2) dNil)) (gN 6) b__law_my_crossings_1)
def _law_my_crossings_at_5 : DTS := (dFrz 4 (dRet (dVar 4)))
def _law_my_crossings_at_2 : DTS := (dSeq (dFor (iR1 (dCons (dVar 1) dNil)) (gN 5) b__law_my_crossings_2)
  _law_my_crossings_at_5)
def t__law_my_crossings : DTS := (dSeq (dSetT 4 (oDic0 true))
  _law_my_crossings_at_2)
def S__law_my_crossings : FD := fun ds Q => ds.length = 4 ∧ t__law_my_crossings { nx := fun _ => Q .non, rt := Q } (startD 7 ds)
theorem len__law_my_crossings : ∀ ds Q, S__law_my_crossings ds Q → ds.length = 4 := fun _ _ h => h.1
theorem vc__law_my_crossings : ∀ ds Q, S__law_my_crossings ds Q → t__law_my_crossings { nx := fun _ => Q .non, rt := Q } (startD 7 ds) := fun _ _ h => h.2
theorem ok__law_my_crossings {P : Program} {w : World} {K : PySem.W.Frag} {mg : Str → Option Value} {base : Heap} {B : Bx} (T : Top K mg B.ct) : FnOk P w K mg base CX0 1 T.f__law_my_crossings.f T.f__law_my_crossings.fd ["_law_text", "_law_n", "_law_m", "_law_rounds"] (spD K B S__law_my_crossings) := by
  refine fn_d (k := 0) (t := t__law_my_crossings) T.f__law_my_crossings.fn sc__law_my_crossings len__law_my_crossings (fun cdv A outer s H E hr => ?_) vc__law_my_crossings
  refine psd_cons ?_ ?_
  · refine (psd_setT (i := 4) sc__law_my_crossings.nd rfl (by first | exact .inl rfl | exact .inr rfl) po_dicT)
  refine psd_cons ?_ ?_
  · refine psd_for PassesOwn.never rfl (pid_r1 (by rfl) T.n_range (pad_cons (pd_var 1) pad_nil)) (pgd_name (i := 5) sc__law_my_crossings.nd rfl (by first | exact .inl rfl | exact .inr rfl)) ?_
    refine psd_one ?_
    refine psd_for PassesOwn.never rfl (pid_r1 (by rfl) T.n_range (pad_cons (pd_var 2) pad_nil)) (pgd_name (i := 6) sc__law_my_crossings.nd rfl (by first | exact .inl rfl | exact .inr rfl)) ?_
    refine psd_one ?_
    refine (psd_dputR (room_u1 hr) (pr_var (pv 4)) (pd_tup (pad_cons (pd_var 5) (pad_cons (pd_var 6) pad_nil))) (pd_str3 (pd_var 0) (pod_some (pd_bin op_add_d (pd_bin op_mul_d (pd_var 5) (pd_var 2)) (pd_var 6))) pod_none (pod_some (pd_bin op_mul_d (pd_var 1) (pd_var 2)))))
  refine psds_frz 4 ?_
  refine psd_one ?_
  refine (psd_ret (pd_var 4))
theorem bag_set {K : PySem.W.Frag} {B : Bx} {G0 H0 G H : Hp} {a b c : Int} {ns : List Int} (g : Gr K B G0 H0 G H) (hL : SqL K G B.L (ns.map V.int)) (h1 : 0 ≤ a) (h2 : 0 ≤ b) (h3 : b < 2147483647) (h4 : 0 ≤ c) (h5 : ∀ n ∈ ns, 0 ≤ n) (h6 : ns.length ≤ 63) :
    Gr K B G0 H0 G (upd H B.b (.lst [.int a, .int b, .int c, .ref B.L])) := by
  refine ⟨g.ex, fun x o n h => by rw [upd_ne n.1]; exact g.kp x o n h, ⟨fun x o h => ?_, g.j.no, ⟨a, b, c, ns, upd_same, hL, h1, h2, h3, h4, h5, h6⟩, { tb := fun t h => ?_, ex := g.j.xt.ex, keep := fun u h a o s e => by rw [upd_ne s.1]; exact g.j.xt.keep u h a o s e, old := g.j.xt.old }⟩, g.old⟩
  · have nx : x ≠ B.b := fun e => by subst e; rw [g.j.no] at h; cases h
    rw [upd_ne nx]
    exact g.j.ex x o h
  · obtain ⟨⟨ps, z1, z2⟩, z3⟩ := g.j.xt.tb t h
    have nt : t.1 ≠ B.b := fun e => by
      obtain ⟨_, _, _, _, ho, _⟩ := g.j.bag
      rw [e, ho] at z1
      cases z1
    exact ⟨⟨ps, by rw [upd_ne nt]; exact z1, z2⟩, z3⟩
set_option maxHeartbeats 16000000 in
theorem ok__law_take {P : Program} {w : World} {K : PySem.W.Frag} {mg : Str → Option Value} {base : Heap} {B : Bx} (T : Top K mg B.ct) : FnOk P w K mg base CX0 1 T.f__law_take.f T.f__law_take.fd ["_law_bag_here", "_law_many"] (spD K B S__law_take) := by
  refine T.f__law_take.fn.ok sc__law_take (fun vs H Q E h => ?_) (fun cdv A outer s H vs Q E hr h => ?_)
  · obtain ⟨G, ds, R, j, hd, hs, _⟩ := h
    rw [hd.len]
    match ds, hs with
    | [.bag, .int _], _ => rfl
  obtain ⟨G, ds, R, j, hd, hs, kk⟩ := h
  match ds, hs, hd with
  | [.bag, .int n], ⟨⟨n0, n1⟩, hR⟩, .cons .bag (.cons (.int _) .nil) =>
  have kv : ∀ (v : Int) (H2 : Hp), 0 ≤ v → v < n → Gr K B G H G H2 → Q (.int v) H2 := fun v H2 v0 v1 g => kk _ _ G H2 (hR v v0 v1) g (.int _)
  refine ⟨_, pss_cut (ps_if (pt_cmpR op_eq (pe_ix ix_list (pv 0) pe_int (fun _ _ => rfl)) pe_int (nomark _))
      (pss_cons (ps_set (i := 2) sc__law_take.nd rfl (.inl rfl) pe_int)
      (pss_cut (ps_if (pt_cmpR op_lt (pe_ix ix_list (pv 0) pe_int (fun _ _ => rfl)) (pe_callB call_len_seq (by rfl) T.n_len PySem.boot_len (pa_cons (pe_ix ix_list (pv 0) pe_int (fun _ _ => rfl)) pa_nil)) (nomark _))
          (pss_one (ps_set (i := 2) sc__law_take.nd rfl (.inl rfl) (pe_ix ix_list (pe_ix ix_list (pv 0) pe_int (fun _ _ => rfl)) (pe_ix ix_list (pv 0) pe_int (fun _ _ => rfl)) (fun _ _ => rfl)))) pss_nil)
      (pss_cons (ps_augS (pv 0) pe_int get_list pe_int ip_add set_list)
      (pss_cut (ps_if (pt_cmpR op_ge (pv 2) pe_int (nomark _)) (pss_one (ps_asg (pv 2) (pg_sub (pv 0) pe_int set_list))) pss_nil)
      (pss_cons (ps_set (i := 3) sc__law_take.nd rfl (.inl rfl) (pe_op op_add (pe_op op_add (pe_op op_mul (pe_ix ix_list (pv 0) pe_int (fun _ _ => rfl)) pe_int) (pe_op op_mod (pe_callTy call_int1 (by rfl) T.n_int (by decide +kernel) (pa_cons (pv 2) pa_nil)) pe_int)) (pe_op op_mul pe_int (pe_ix ix_list (pv 0) pe_int (fun _ _ => rfl)))))
      (pss_one (ps_asg (pe_op op_mod (pe_callTy call_int1 (by rfl) T.n_int (by decide +kernel) (pa_cons (pv 3) pa_nil)) pe_int) (pg_sub (pv 0) pe_int set_list)))))))) pss_nil)
    (pss_cons (ps_if (pt_cmpR op_gt (pe_ix ix_list (pv 0) pe_int (fun _ _ => rfl)) pe_int (nomark _))
        (pss_cons (ps_set (i := 4) sc__law_take.nd rfl (.inl rfl) (pe_op op_mod (pe_callTy call_int1 (by rfl) T.n_int (by decide +kernel) (pa_cons (pe_ix ix_list (pv 0) pe_int (fun _ _ => rfl)) pa_nil)) (pv 1)))
        (pss_cons (ps_asg (pe_op op_fdivW (pe_ix ix_list (pv 0) pe_int (fun _ _ => rfl)) (pv 1)) (pg_sub (pv 0) pe_int set_list))
        (pss_one (ps_ret (pv 4))))) pss_nil)
    (pss_cons (ps_set (i := 5) sc__law_take.nd rfl (.inl rfl) (pe_op op_mod (pe_callTy call_int1 (by rfl) T.n_int (by decide +kernel) (pa_cons (pe_op op_mul (pe_op op_add (pe_ix ix_list (pv 0) pe_int (fun _ _ => rfl)) pe_int) pe_int) pa_nil)) pe_int))
    (pss_cons (ps_set (i := 6) sc__law_take.nd rfl (.inl rfl) (pe_op op_mod (pe_callTy call_int1 (by rfl) T.n_int (by decide +kernel) (pa_cons (pe_op op_mul (pe_op op_mod (pe_callTy call_int1 (by rfl) T.n_int (by decide +kernel) (pa_cons (pe_op op_mul (pv 5) (pv 5)) pa_nil)) pe_int) pe_int) pa_nil)) pe_int))
    (pss_cons (ps_if (pt_cmpR op_gt (pv 1) pe_int (nomark _)) (pss_one (ps_ret (pe_op op_mod (pe_callTy call_int1 (by rfl) T.n_int (by decide +kernel) (pa_cons (pe_op op_add (pe_op op_mul (pv 6) pe_int) (pv 5)) pa_nil)) (pv 1)))) pss_nil)
    (pss_one (ps_ret (pe_op op_mod (pe_callTy call_int1 (by rfl) T.n_int (by decide +kernel) (pa_cons (pe_op op_fdiv (pv 6) pe_int) pa_nil)) (pv 1)))))))), ?_⟩
  refine ⟨fun σ H' => ∃ y2 y3, σ = [some (.ref B.b), some (.int n), y2, y3, none, none, none] ∧ Gr K B G H G H', ?_, fun σ H' hm => ?_⟩
  · obtain ⟨a, b, c, ns, hb, hL, p1, p2, p3, p4, p5, p6⟩ := j.bag
    have sB : SqL K H B.b [.int a, .int b, .int c, .ref B.L] := SqL.of hb
    refine ⟨.ref B.b, rfl, B.b, _, 0, .int a, rfl, rfl, sB, atI_nat (j := 0) rfl, rfl, _, rfl, ite2 (fun _ => ?_) (fun _ => ⟨none, none, rfl, Gr.refl j⟩)⟩
    have hLH : SqL K H B.L (ns.map V.int) := ex_l j.ex hL
    refine ⟨fun σ H' => ∃ cell : Int, 0 ≤ cell ∧ σ = [some (.ref B.b), some (.int n), some (.int cell), none, none, none, none] ∧ H = H', ?_, fun σ H' hm => ?_⟩
    · refine ⟨.ref B.b, rfl, B.b, _, 2, .int c, rfl, rfl, sB, atI_nat (j := 2) rfl, .ref B.b, rfl, B.b, _, 3, .ref B.L, rfl, rfl, sB, atI_nat (j := 3) rfl, B.L, _, rfl, .inl hLH, c, _, rfl, rfl, _, rfl, ite2 (fun e => ?_) (fun _ => ⟨0, Int.le_refl 0, rfl, rfl⟩)⟩
      have hc : c < (ns.length : Int) := by
        have := of_decide_eq_true e
        rw [List.length_map] at this
        exact this
      have hi : c.toNat < ns.length := by omega
      have g1 : atI (ns.map V.int) c = some (.int ns[c.toNat]) := atI_q p4 (by rw [List.getElem?_map, List.getElem?_eq_getElem hi]; rfl)
      exact ⟨.ref B.b, rfl, B.b, _, 3, .ref B.L, rfl, rfl, sB, atI_nat (j := 3) rfl, .ref B.b, rfl, B.b, _, 2, .int c, rfl, rfl, sB, atI_nat (j := 2) rfl, B.L, _, c, _, rfl, rfl, hLH, g1, _, p5 _ (List.getElem_mem hi), rfl, rfl⟩
    · obtain ⟨cell, c0, rfl, rfl⟩ := hm
      -- bag[2] += 1
      refine ⟨.ref B.b, rfl, B.b, _, 2, .int c, rfl, rfl, sB, rfl, c, 1, rfl, rfl, B.b, _, 2, 2, rfl, rfl, hb, rfl, ?_⟩
      have g1 : Gr K B G H G (upd H B.b (.lst [.int a, .int b, .int (c + 1), .ref B.L])) := bag_set (Gr.refl j) hL p1 p2 p3 (Int.add_nonneg p4 (by decide)) p5 p6
      -- if cell >= ..: bag[0] = cell
      refine ⟨fun σ H' => ∃ a' : Int, 0 ≤ a' ∧ σ = [some (.ref B.b), some (.int n), some (.int cell), none, none, none, none] ∧ H' B.b = some (.lst [.int a', .int b, .int (c + 1), .ref B.L]) ∧ Gr K B G H G H', ?_, fun σ H' hm => ?_⟩
      · refine ⟨.int cell, rfl, cell, _, rfl, rfl, _, rfl, ite2 (fun _ => ?_) (fun _ => ⟨a, p1, rfl, upd_same, g1⟩)⟩
        refine ⟨.int cell, rfl, .ref B.b, rfl, B.b, _, 0, 0, rfl, rfl, upd_same, rfl, cell, c0, rfl, ?_, ?_⟩
        · rw [upd_same]; rfl
        · exact bag_set g1 hL c0 p2 p3 (Int.add_nonneg p4 (by decide)) p5 p6
      · obtain ⟨a', a0, rfl, hb', g2⟩ := hm
        have sB' : SqL K H' B.b [.int a', .int b, .int (c + 1), .ref B.L] := SqL.of hb'
        refine ⟨.ref B.b, rfl, B.b, _, 1, .int b, rfl, rfl, sB', atI_nat (j := 1) rfl, b, 48271, rfl, rfl, .inr ⟨by decide, by decide⟩, .int cell, rfl, .inl ⟨cell, rfl, cell, 2147483647, rfl, rfl, (by decide : (0 : Int) < 2147483647), _, _, rfl, rfl, ?_⟩⟩
        refine ⟨.ref B.b, rfl, B.b, _, 2, .int (c + 1), rfl, rfl, sB', atI_nat (j := 2) rfl, 7919, c + 1, rfl, rfl, .inl ⟨by decide, by decide⟩, _, _, rfl, rfl, ?_⟩
        refine ⟨_, rfl, .inl ⟨_, rfl, _, 2147483647, rfl, rfl, (by decide : (0 : Int) < 2147483647), .ref B.b, rfl, B.b, _, 1, 1, rfl, rfl, hb', rfl, some (.int cell), _, rfl, ?_⟩⟩
        exact bag_set g2 hL a0 (Int.emod_nonneg _ (by decide)) (Int.emod_lt_of_pos _ (by decide)) (Int.add_nonneg p4 (by decide)) p5 p6
  · obtain ⟨y2, y3, rfl, g⟩ := hm
    obtain ⟨a, b, c, ns, hb, hL, p1, p2, p3, p4, p5, p6⟩ := g.j.bag
    have sB : SqL K H' B.b [.int a, .int b, .int c, .ref B.L] := SqL.of hb
    refine ⟨.ref B.b, rfl, B.b, _, 0, .int a, rfl, rfl, sB, atI_nat (j := 0) rfl, a, 0, rfl, rfl, _, rfl, ite2 (fun _ => ?_) (fun _ => ?_)⟩
    · refine ⟨.ref B.b, rfl, B.b, _, 0, .int a, rfl, rfl, sB, atI_nat (j := 0) rfl, .inl ⟨a, rfl, .int n, rfl, a, n, rfl, rfl, n0, ?_⟩⟩
      refine ⟨.ref B.b, rfl, B.b, _, 0, .int a, rfl, rfl, sB, atI_nat (j := 0) rfl, .int n, rfl, a, n, rfl, rfl, ⟨n0, n1⟩, .ref B.b, rfl, B.b, _, 0, 0, rfl, rfl, hb, rfl, .int (a % n), rfl, ?_⟩
      refine kv _ _ (Int.emod_nonneg _ (by omega)) (Int.emod_lt_of_pos _ n0) ?_
      exact bag_set g hL (Int.ediv_nonneg p1 (by omega)) p2 p3 p4 p5 p6
    · refine ⟨.ref B.b, rfl, B.b, _, 1, .int b, rfl, rfl, sB, atI_nat (j := 1) rfl, b, 1, rfl, rfl, b + 1, 39373, rfl, rfl, .inr ⟨by decide, by decide⟩, .inl ⟨_, rfl, _, 1000000007, rfl, rfl, (by decide : (0 : Int) < 1000000007), ?_⟩⟩
      have q1 : 0 ≤ (b + 1) * 39373 % 1000000007 := Int.emod_nonneg _ (by decide)
      have q2 : (b + 1) * 39373 % 1000000007 < 1000000007 := Int.emod_lt_of_pos _ (by decide)
      have q3 : -(2 ^ 64) < (b + 1) * 39373 % 1000000007 := by omega
      have q4 : (b + 1) * 39373 % 1000000007 < 2 ^ 64 := by omega
      refine ⟨_, rfl, _, rfl, _, _, rfl, rfl, .inl ⟨q3, q4⟩, .inl ⟨_, rfl, _, 998244353, rfl, rfl, (by decide : (0 : Int) < 998244353), _, 30011, rfl, rfl, .inr ⟨by decide, by decide⟩, .inl ⟨_, rfl, _, 998244353, rfl, rfl, (by decide : (0 : Int) < 998244353), ?_⟩⟩⟩
      refine ⟨.int n, rfl, n, 1000000, rfl, rfl, _, rfl, ite2 (fun _ => ?_) (fun _ => ?_)⟩
      · refine ⟨_, rfl, _, 1000000007, rfl, rfl, .inr ⟨by decide, by decide⟩, _, rfl, _, _, rfl, rfl, .inl ⟨_, rfl, .int n, rfl, _, n, rfl, rfl, n0, ?_⟩⟩
        exact kv _ _ (Int.emod_nonneg _ (by omega)) (Int.emod_lt_of_pos _ n0) g
      · refine ⟨_, rfl, _, 7, rfl, rfl, ⟨by decide, by decide⟩, .inl ⟨_, rfl, .int n, rfl, _, n, rfl, rfl, n0, ?_⟩⟩
        exact kv _ _ (Int.emod_nonneg _ (by omega)) (Int.emod_lt_of_pos _ n0) g
def S__law_pick : FD := fun ds Q => match ds with
  | [.bag, .lst xs] => (0 < xs.length ∧ xs.length ≤ 1000) ∧ ∀ d, d ∈ xs → Q d
  | [.bag, .str x] => (0 < x.length ∧ x.length ≤ 1000) ∧ ∀ c, c ∈ x.cps.toList → Q (.str ⟨#[c]⟩)
  | _ => False
theorem len__law_pick : ∀ ds Q, S__law_pick ds Q → ds.length = 2
  | [.bag, .lst _], _, _ => rfl
  | [.bag, .str _], _, _ => rfl
def t__law_pick : DTS := (dRet (dOp oIx (dVar 1) (dCall S__law_take (dCons (dVar 0) (dCons (dCall cLen (dCons (dVar 1) dNil)) dNil)))))
theorem vc__law_pick : ∀ ds Q, S__law_pick ds Q → t__law_pick { nx := fun _ => Q .non, rt := Q } (startD [("_law_bag_here" : Str), "_law_things"].length ds)
  | [.bag, .lst xs], Q, h => by
    obtain ⟨⟨h0, h1⟩, hq⟩ := h
    simp only [t__law_pick, startD, startI, endI, List.map_cons, List.map_nil, List.length_cons, List.length_nil, Nat.reduceAdd, Nat.reduceSub, Nat.sub_self, List.replicate, List.cons_append, List.nil_append, List.append_nil, List.getElem?_cons_zero, List.getElem?_cons_succ, List.set_cons_zero, List.set_cons_succ, dVar, dC, dNil, dCons, dTup, fLst, dF, dOp, dUn, tBl, tAn, tOrr, tNt, dAn, dOr, dNt, dIfE, dCall, dNext, dSeq, dRet, dRetN, dDrop, dIfS, dBrk, dCnt, gN, gsNil, gsCons, gT, gL, dAsg, dSet, dPar, iSeq, iR1, iR2, dFor, fLc, wipeD, dYes, dStar, dMt, isT, dIsi, pureD, dFld, dProp, isO, dMeth, dMake, dCallO, dSelf, dSelf2, oNeg, oI, oIc, oSub, oMod, oDiv, oLt, oLe, oGt, oGe, oAdd, oMul, oIx, oEq, oNe, oIn, oSl, dSl, noP, aP, cLen, cInt, cAbs, cMax, cAll, cAny, cRepr, cTuple, mJoin, mCount, oOwn, oOwn1, oOwnNe, decide_true, decide_false, Bool.false_eq_true, if_true, if_false, beq_self_eq_true, true_and, and_true, atI0, atI1, atI2, atI3, atI4, atI5, atI6, atI7, Nat.reduceLeDiff, decide_true, gt_iff_lt, S__law_take]
    refine ⟨⟨by omega, small_log (by omega) (by omega)⟩, fun v v0 v1 => ?_⟩
    rw [atI_pos v0 v1]
    exact hq _ (List.getElem_mem _)
  | [.bag, .str x], Q, h => by
    obtain ⟨⟨h0, h1⟩, hq⟩ := h
    simp only [t__law_pick, startD, startI, endI, List.map_cons, List.map_nil, List.length_cons, List.length_nil, Nat.reduceAdd, Nat.reduceSub, Nat.sub_self, List.replicate, List.cons_append, List.nil_append, List.append_nil, List.getElem?_cons_zero, List.getElem?_cons_succ, List.set_cons_zero, List.set_cons_succ, dVar, dC, dNil, dCons, dTup, fLst, dF, dOp, dUn, tBl, tAn, tOrr, tNt, dAn, dOr, dNt, dIfE, dCall, dNext, dSeq, dRet, dRetN, dDrop, dIfS, dBrk, dCnt, gN, gsNil, gsCons, gT, gL, dAsg, dSet, dPar, iSeq, iR1, iR2, dFor, fLc, wipeD, dYes, dStar, dMt, isT, dIsi, pureD, dFld, dProp, isO, dMeth, dMake, dCallO, dSelf, dSelf2, oNeg, oI, oIc, oSub, oMod, oDiv, oLt, oLe, oGt, oGe, oAdd, oMul, oIx, oEq, oNe, oIn, oSl, dSl, noP, aP, cLen, cInt, cAbs, cMax, cAll, cAny, cRepr, cTuple, mJoin, mCount, oOwn, oOwn1, oOwnNe, decide_true, decide_false, Bool.false_eq_true, if_true, if_false, beq_self_eq_true, true_and, and_true, atI0, atI1, atI2, atI3, atI4, atI5, atI6, atI7, Nat.reduceLeDiff, decide_true, gt_iff_lt, S__law_take]
    have hz : x.length ≤ sizeLine := Nat.le_trans h1 (by decide)
    refine ⟨hz, ⟨by omega, small_log (by omega) (by omega)⟩, fun v v0 v1 => ?_⟩
    have v2 : v < x.cps.toList.length := by rw [len_toList]; exact v1
    rw [atI_pos v0 v2]
    exact ⟨hz, hq _ (List.getElem_mem _)⟩
theorem ok__law_pick {P : Program} {w : World} {K : PySem.W.Frag} {mg : Str → Option Value} {base : Heap} {B : Bx} (T : Top K mg B.ct) : FnOk P w K mg base CX0 2 T.f__law_pick.f T.f__law_pick.fd ["_law_bag_here", "_law_things"] (spD K B S__law_pick) := by
  refine fn_d (k := 1) (t := t__law_pick) T.f__law_pick.fn sc__law_pick len__law_pick (fun cdv A outer s H E hr => ?_) vc__law_pick
  refine psd_one ?_
  refine (psd_ret (pd_ix ix_d (pd_var 1) (pd_callD T.f__law_take (ok__law_take T) hr (by decide) (by rfl) (pad_cons (pd_var 0) (pad_cons (pd_callB call_len_d (by rfl) T.n_len (by decide +kernel) (pad_cons (pd_var 1) pad_nil)) pad_nil)))))
def _law_my_forms_at_8 : DTS := (dSet 4 (dOp oSub (dOp oSub (dVar 4) (dVar 7)) (dVar 8)))
def _law_my_forms_at_6 : DTS := (dIfS (tBl (dOp oLe (dOp oAdd (dVar 7) (dVar 8)) (dVar 4))) (dSeq (dAppR (rVar 3) (dTup (dCons (dCall S__law_pick (dCons (dVar 0) (dCons (dF (fLst (dCons (dC (.str (Str.ofString "turns"))) (dCons (dC (.str (Str.ofString "others"))) (dCons (dC (.str (Str.ofString "rounds"))) (dCons (dC (.str (Str.ofString "suns"))) (dCons (dC (.str (Str.ofString "moons"))) dNil))))))) dNil))) (dCons (dVar 7) (dCons (dVar 8) dNil)))))
  _law_my_forms_at_8) dNext)
def _law_my_forms_at_4 : DTS := (dSeq (dIfS (tBl (dVar 5)) (dPar 7 8 (dCons (dCall S__law_take (dCons (dVar 0) (dCons (dC (.int 25)) dNil))) (dCons (dOp oAdd (dC (.int 1)) (dCall S__law_take (dCons (dVar 0) (dCons (dC (.int 24)) dNil)))) dNil))) dNext)
  _law_my_forms_at_6)
def b__law_my_forms_1 : DTS := (dSeq (dPar 7 8 (dCons (dCall S__law_take (dCons (dVar 0) (dCons (dC (.int 3)) dNil))) (dCons (dOp oAdd (dC (.int 1)) (dCall S__law_take (dCons (dVar 0) (dCons (dC (.int 4)) dNil)))) dNil)))
  _law_my_forms_at_4)
def _law_my_forms_at_9 : DTS := (dFrz 3 (dRet (dVar 3)))
def _law_my_forms_at_2 : DTS := (dSeq (dFor (iR1 (dCons (dCall S__law_take (dCons (dVar 0) (dCons (dOp oAdd (dVar 1) (dC (.int 1))) dNil))) dNil)) (gN 6) b__law_my_forms_1)
  _law_my_forms_at_9)
def t__law_my_forms : DTS := (dSeq (dPar3 3 4 5 (oCons (oF (fLst dNil)) (oCons (oD (dVar 2)) (oCons (oD (dAn (dOp oGt (dVar 2) (dC (.int 16))) (dOp oEq (dCall S__law_take (dCons (dVar 0) (dCons (dC (.int 4)) dNil))) (dC (.int 0))))) oNil))))
  _law_my_forms_at_2)
def S__law_my_forms : FD := fun ds Q => ds.length = 3 ∧ t__law_my_forms { nx := fun _ => Q .non, rt := Q } (startD 9 ds)
theorem len__law_my_forms : ∀ ds Q, S__law_my_forms ds Q → ds.length = 3 := fun _ _ h => h.1
theorem vc__law_my_forms : ∀ ds Q, S__law_my_forms ds Q → t__law_my_forms { nx := fun _ => Q .non, rt := Q } (startD 9 ds) := fun _ _ h => h.2
theorem ok__law_my_forms {P : Program} {w : World} {K : PySem.W.Frag} {mg : Str → Option Value} {base : Heap} {B : Bx} (T : Top K mg B.ct) : FnOk P w K mg base CX0 3 T.f__law_my_forms.f T.f__law_my_forms.fd ["_law_bag_here", "_law_many", "_law_size"] (spD K B S__law_my_forms) := by
  refine fn_d (k := 2) (t := t__law_my_forms) T.f__law_my_forms.fn sc__law_my_forms len__law_my_forms (fun cdv A outer s H E hr => ?_) vc__law_my_forms
  refine psd_cons ?_ ?_
  · refine (psd_par3 (i := 3) (j := 4) (l := 5) rfl sc__law_my_forms.nd rfl rfl rfl (by decide) (by decide) (by decide) rfl rfl rfl (pao_cons (po_f (pf_lst pad_nil)) (pao_cons (po_d (pd_var 2)) (pao_cons (po_d (pd_and (pd_cmp op_gt_d (pd_var 2) pd_int (by rfl)) (pd_1 (pd_cmp (op_eq_d hr.units) (pd_callD T.f__law_take (ok__law_take T) hr (by decide) (by rfl) (pad_cons (pd_var 0) (pad_cons pd_int pad_nil))) pd_int (by rfl))))) pao_nil))) (by rfl))
  refine psd_cons ?_ ?_
  · refine psd_for PassesOwn.never rfl (pid_r1 (by rfl) T.n_range ?h2) (pgd_name (i := 6) sc__law_my_forms.nd rfl (by first | exact .inl rfl | exact .inr rfl)) ?_
    case h2 => exact (pad_cons (pd_callD T.f__law_take (ok__law_take T) hr (by decide) (by rfl) (pad_cons (pd_var 0) (pad_cons (pd_bin op_add_d (pd_var 1) pd_int) pad_nil))) pad_nil)
    refine psd_cons ?_ ?_
    · refine (psd_par (i := 7) (j := 8) rfl sc__law_my_forms.nd rfl rfl (by decide) rfl rfl (pad_cons (pd_callD T.f__law_take (ok__law_take T) hr (by decide) (by rfl) (pad_cons (pd_var 0) (pad_cons pd_int pad_nil))) (pad_cons (pd_bin op_add_d pd_int (pd_callD T.f__law_take (ok__law_take T) hr (by decide) (by rfl) (pad_cons (pd_var 0) (pad_cons pd_int pad_nil)))) pad_nil)) (by rfl))
    refine psd_cons ?_ ?_
    · refine psd_if (ptd_val (pd_var 5)) ?_ ?_
      · refine psd_one ?_
        refine (psd_par (i := 7) (j := 8) rfl sc__law_my_forms.nd rfl rfl (by decide) rfl rfl (pad_cons (pd_callD T.f__law_take (ok__law_take T) hr (by decide) (by rfl) (pad_cons (pd_var 0) (pad_cons pd_int pad_nil))) (pad_cons (pd_bin op_add_d pd_int (pd_callD T.f__law_take (ok__law_take T) hr (by decide) (by rfl) (pad_cons (pd_var 0) (pad_cons pd_int pad_nil)))) pad_nil)) (by rfl))
      · exact psd_nil
    refine psd_one ?_
    refine psd_if (ptd_cmp op_le_d (pd_bin op_add_d (pd_var 7) (pd_var 8)) (pd_var 4) (by rfl)) ?_ ?_
    · refine psd_cons ?_ ?_
      · refine (psd_appR (pr_var (pv 3)) (pd_tup (pad_cons (pd_callD T.f__law_pick (ok__law_pick T) hr (by decide) (by rfl) (pad_cons (pd_var 0) (pad_cons (pd_f (pf_lst (pad_cons pd_str (pad_cons pd_str (pad_cons pd_str (pad_cons pd_str (pad_cons pd_str pad_nil))))))) pad_nil))) (pad_cons (pd_var 7) (pad_cons (pd_var 8) pad_nil)))))
      refine psd_one ?_
      refine (psd_set (i := 4) sc__law_my_forms.nd rfl (by first | exact .inl rfl | exact .inr rfl) (pd_bin op_sub_d (pd_bin op_sub_d (pd_var 4) (pd_var 7)) (pd_var 8)))
    · exact psd_nil
  refine psds_frz 3 ?_
  refine psd_one ?_
  refine (psd_ret (pd_var 3))
def b__law_mixed_1 : DTS := (dInsR (rVar 2) (dBor 2 (dCall S__law_take (dCons (dVar 0) (dCons (dOp oAdd (dCall cLen (dCons (dVar 2) dNil)) (dC (.int 1))) dNil)))) (dVar 3))
def _law_mixed_at_4 : DTS := (dFrz 2 (dRet (dVar 2)))
def _law_mixed_at_2 : DTS := (dSeq (dFor (iSeq (dVar 1)) (gN 3) b__law_mixed_1)
  _law_mixed_at_4)
def t__law_mixed : DTS := (dSeq (dSetT 2 (oF (fLst dNil)))
  _law_mixed_at_2)
def S__law_mixed : FD := fun ds Q => ds.length = 2 ∧ t__law_mixed { nx := fun _ => Q .non, rt := Q } (startD 4 ds)
theorem len__law_mixed : ∀ ds Q, S__law_mixed ds Q → ds.length = 2 := fun _ _ h => h.1
theorem vc__law_mixed : ∀ ds Q, S__law_mixed ds Q → t__law_mixed { nx := fun _ => Q .non, rt := Q } (startD 4 ds) := fun _ _ h => h.2
theorem ok__law_mixed {P : Program} {w : World} {K : PySem.W.Frag} {mg : Str → Option Value} {base : Heap} {B : Bx} (T : Top K mg B.ct) : FnOk P w K mg base CX0 2 T.f__law_mixed.f T.f__law_mixed.fd ["_law_bag_here", "_law_things"] (spD K B S__law_mixed) := by
  refine fn_d (k := 1) (t := t__law_mixed) T.f__law_mixed.fn sc__law_mixed len__law_mixed (fun cdv A outer s H E hr => ?_) vc__law_mixed
  refine psd_cons ?_ ?_
  · refine (psd_setT (i := 2) sc__law_mixed.nd rfl (by first | exact .inl rfl | exact .inr rfl) (po_f (pf_lst pad_nil)))
  refine psd_cons ?_ ?_
  · refine psd_for PassesOwn.never rfl (pid_seq (pd_var 1)) (pgd_name (i := 3) sc__law_mixed.nd rfl (by first | exact .inl rfl | exact .inr rfl)) ?_
    refine psd_one ?_
    refine (psd_insR (pr_var (pv 2)) (pd_bor 2 (pd_callD T.f__law_take (ok__law_take T) hr (by decide) (by rfl) (pad_cons (pd_var 0) (pad_cons (pd_bin op_add_d (pd_callB call_len_d (by rfl) T.n_len (by decide +kernel) (pad_cons (pd_var 2) pad_nil)) pd_int) pad_nil)))) (pd_var 3))
  refine psds_frz 2 ?_
  refine psd_one ?_
  refine (psd_ret (pd_var 2))
def t__law_my_shuffled : DTS := (dRetE (oDictD (dCall S__law_mixed (dCons (dVar 0) (dCons (dF (fItemsT (dVar 1))) dNil)))))
def S__law_my_shuffled : FO := fun ds Q => ds.length = 2 ∧ t__law_my_shuffled { nx := fun _ => Q (.sh .non), rt := fun d => Q (.sh d), ro := Q } (startD 2 ds)
theorem len__law_my_shuffled : ∀ ds Q, S__law_my_shuffled ds Q → ds.length = 2 := fun _ _ h => h.1
theorem vc__law_my_shuffled : ∀ ds Q, S__law_my_shuffled ds Q → t__law_my_shuffled { nx := fun _ => Q (.sh .non), rt := fun d => Q (.sh d), ro := Q } (startD 2 ds) := fun _ _ h => h.2
theorem ok__law_my_shuffled {P : Program} {w : World} {K : PySem.W.Frag} {mg : Str → Option Value} {base : Heap} {B : Bx} (T : Top K mg B.ct) : FnOk P w K mg base CX0 3 T.f__law_my_shuffled.f T.f__law_my_shuffled.fd ["_law_bag_here", "_law_cloth"] (spO K B S__law_my_shuffled) := by
  refine fn_o (k := 2) (t := t__law_my_shuffled) T.f__law_my_shuffled.fn sc__law_my_shuffled len__law_my_shuffled (fun cdv A outer s H E hr => ?_) vc__law_my_shuffled
  refine psd_one ?_
  refine (psd_retE (po_dictD rfl (room_u2 hr) (by rfl) T.n_dict (pd_callD T.f__law_mixed (ok__law_mixed T) hr (by decide) (by rfl) (pad_cons (pd_var 0) (pad_cons (pd_f (pf_itemsT rfl (pd_var 1) (by rfl) T.n_list)) pad_nil)))))
def t__law_my_size : DTS := (dRet (dCall cSumL (dCons (dF (fLc (iSeq (dVar 0)) (gN 1) dYes (dOp oAdd (dOp oIx (dVar 1) (dC (.int 1))) (dOp oIx (dVar 1) (dC (.int 2)))) [1])) dNil)))
def S__law_my_size : FD := fun ds Q => ds.length = 1 ∧ t__law_my_size { nx := fun _ => Q .non, rt := Q } (startD 2 ds)
theorem len__law_my_size : ∀ ds Q, S__law_my_size ds Q → ds.length = 1 := fun _ _ h => h.1
theorem vc__law_my_size : ∀ ds Q, S__law_my_size ds Q → t__law_my_size { nx := fun _ => Q .non, rt := Q } (startD 2 ds) := fun _ _ h => h.2
theorem ok__law_my_size {P : Program} {w : World} {K : PySem.W.Frag} {mg : Str → Option Value} {base : Heap} {B : Bx} (T : Top K mg B.ct) : FnOk P w K mg base CX0 1 T.f__law_my_size.f T.f__law_my_size.fd ["_law_forms"] (spD K B S__law_my_size) := by
  refine fn_d (k := 0) (t := t__law_my_size) T.f__law_my_size.fn sc__law_my_size len__law_my_size (fun cdv A outer s H E hr => ?_) vc__law_my_size
  refine psd_one ?_
  refine (psd_ret (pd_callB (call_sumL_d rfl) (by rfl) T.n_sum (by decide +kernel) (pad_cons (pd_f (pf_lc rfl sc__law_my_size.nd (pid_seq (pd_var 0)) (blkOk_by (own := [("_law_form", 1)]) (by rfl)) (by decide) (fun _ _ _ _ _ => (pgd_name (i := 1) sc__law_my_size.nd rfl (by first | exact .inl rfl | exact .inr rfl))) (fun _ _ _ _ _ => ptsd_nil) (fun _ _ _ _ _ => ?h2))) pad_nil)))
  case h2 => exact (pd_bin op_add_d (pd_ix ix_d (pd_var 1) pd_int) (pd_ix ix_d (pd_var 1) pd_int))
def b__law_my_meetings_1 : DTS := (dSet 3 (dOp oAdd (dVar 3) (dF (fLc (iR1 (dCons (dVar 1) dNil)) (gN 6) dYes (dTup (dCons (dVar 4) (dCons (dVar 5) (dCons (dVar 6) dNil)))) [6]))))
def b__law_my_meetings_2 : DTS := (dFor (iR1 (dCons (dVar 0) dNil)) (gN 5) b__law_my_meetings_1)
def _law_my_meetings_at_5 : DTS := (dRet (dVar 3))
def _law_my_meetings_at_2 : DTS := (dSeq (dFor (iR1 (dCons (dVar 2) dNil)) (gN 4) b__law_my_meetings_2)
  _law_my_meetings_at_5)
def t__law_my_meetings : DTS := (dSeq (dSet 3 (dF (fLst dNil)))
  _law_my_meetings_at_2)
def S__law_my_meetings : FD := fun ds Q => ds.length = 3 ∧ t__law_my_meetings { nx := fun _ => Q .non, rt := Q } (startD 7 ds)
theorem len__law_my_meetings : ∀ ds Q, S__law_my_meetings ds Q → ds.length = 3 := fun _ _ h => h.1
theorem vc__law_my_meetings : ∀ ds Q, S__law_my_meetings ds Q → t__law_my_meetings { nx := fun _ => Q .non, rt := Q } (startD 7 ds) := fun _ _ h => h.2
theorem ok__law_my_meetings {P : Program} {w : World} {K : PySem.W.Frag} {mg : Str → Option Value} {base : Heap} {B : Bx} (T : Top K mg B.ct) : FnOk P w K mg base CX0 1 T.f__law_my_meetings.f T.f__law_my_meetings.fd ["_law_n", "_law_m", "_law_rounds"] (spD K B S__law_my_meetings) := by
  refine fn_d (k := 0) (t := t__law_my_meetings) T.f__law_my_meetings.fn sc__law_my_meetings len__law_my_meetings (fun cdv A outer s H E hr => ?_) vc__law_my_meetings
  refine psd_cons ?_ ?_
  · refine (psd_set (i := 3) sc__law_my_meetings.nd rfl (by first | exact .inl rfl | exact .inr rfl) (pd_f (pf_lst pad_nil)))
  refine psd_cons ?_ ?_
  · refine psd_for PassesOwn.never rfl (pid_r1 (by rfl) T.n_range (pad_cons (pd_var 2) pad_nil)) (pgd_name (i := 4) sc__law_my_meetings.nd rfl (by first | exact .inl rfl | exact .inr rfl)) ?_
    refine psd_one ?_
    refine psd_for PassesOwn.never rfl (pid_r1 (by rfl) T.n_range (pad_cons (pd_var 0) pad_nil)) (pgd_name (i := 5) sc__law_my_meetings.nd rfl (by first | exact .inl rfl | exact .inr rfl)) ?_
    refine psd_one ?_
    refine (psd_set (i := 3) sc__law_my_meetings.nd rfl (by first | exact .inl rfl | exact .inr rfl) (pd_bin op_add_d (pd_var 3) (pd_f (pf_lc rfl sc__law_my_meetings.nd (pid_r1 (by rfl) T.n_range (pad_cons (pd_var 1) pad_nil)) (blkOk_by (own := [("_law_j", 6)]) (by rfl)) (by decide) (fun _ _ _ _ _ => (pgd_name (i := 6) sc__law_my_meetings.nd rfl (by first | exact .inl rfl | exact .inr rfl))) (fun _ _ _ _ _ => ptsd_nil) (fun _ _ _ _ _ => ?h2)))))
    case h2 => exact (pd_tup (pad_cons (pd_var 4) (pad_cons (pd_var 5) (pad_cons (pd_var 6) pad_nil))))
  refine psd_one ?_
  refine (psd_ret (pd_var 3))
def _law_my_places_at_6 : DTS := (dAug oIAdd 8 (dOp oAdd (dVar 10) (dVar 11)))
def _law_my_places_at_5 : DTS := (dSeq (dAppR (rVar 7) (dOp oAdd (dVar 8) (dIfE (tBl (dOp oLt (dVar 12) (dVar 10))) (dVar 12) (dOp oAdd (dVar 10) (dOp oMod (dCall cInt (dCons (dOp oSub (dVar 12) (dVar 10)) dNil)) (dVar 11))))))
  _law_my_places_at_6)
def b__law_my_places_1 : DTS := (dSeq (dSet 12 (dDGet (dVar 6) (dVar 9)))
  _law_my_places_at_5)
def _law_my_places_at_7 : DTS := (dFrz 7 (dRet (dVar 7)))
def _law_my_places_at_3 : DTS := (dSeq (dFor (iSeq (dVar 0)) (gT 3 (gsCons (gN 9) (gsCons (gN 10) (gsCons (gN 11) gsNil)))) b__law_my_places_1)
  _law_my_places_at_7)
def _law_my_places_at_2 : DTS := (dSeq (dPar2 7 8 (oCons (oF (fLst dNil)) (oCons (oD (dC (.int 0))) oNil)))
  _law_my_places_at_3)
def t__law_my_places : DTS := (dSeq (dSet 6 (dDic [Str.ofString "turns", Str.ofString "others", Str.ofString "rounds", Str.ofString "suns", Str.ofString "moons"] (dCons (dOp oAdd (dOp oMul (dVar 1) (dVar 5)) (dVar 3)) (dCons (dOp oAdd (dOp oMul (dVar 1) (dVar 4)) (dVar 2)) (dCons (dVar 1) (dCons (dVar 2) (dCons (dVar 3) dNil)))))))
  _law_my_places_at_2)
def S__law_my_places : FD := fun ds Q => ds.length = 6 ∧ t__law_my_places { nx := fun _ => Q .non, rt := Q } (startD 13 ds)
theorem len__law_my_places : ∀ ds Q, S__law_my_places ds Q → ds.length = 6 := fun _ _ h => h.1
theorem vc__law_my_places : ∀ ds Q, S__law_my_places ds Q → t__law_my_places { nx := fun _ => Q .non, rt := Q } (startD 13 ds) := fun _ _ h => h.2
theorem ok__law_my_places {P : Program} {w : World} {K : PySem.W.Frag} {mg : Str → Option Value} {base : Heap} {B : Bx} (T : Top K mg B.ct) : FnOk P w K mg base CX0 1 T.f__law_my_places.f T.f__law_my_places.fd ["_law_forms", "_law_r", "_law_i", "_law_j", "_law_n", "_law_m"] (spD K B S__law_my_places) := by
  refine fn_d (k := 0) (t := t__law_my_places) T.f__law_my_places.fn sc__law_my_places len__law_my_places (fun cdv A outer s H E hr => ?_) vc__law_my_places
  refine psd_cons ?_ ?_
  · refine (psd_set (i := 6) sc__law_my_places.nd rfl (by first | exact .inl rfl | exact .inr rfl) (pd_dic (ppd_cons (pd_bin op_add_d (pd_bin op_mul_d (pd_var 1) (pd_var 5)) (pd_var 3)) (ppd_cons (pd_bin op_add_d (pd_bin op_mul_d (pd_var 1) (pd_var 4)) (pd_var 2)) (ppd_cons (pd_var 1) (ppd_cons (pd_var 2) (ppd_cons (pd_var 3) ppd_nil))))) (by decide) rfl rfl (by intro z; cases z) (by decide) (by decide)))
  refine psd_cons ?_ ?_
  · refine (psd_par2 (i := 7) (j := 8) rfl sc__law_my_places.nd rfl rfl (by decide) rfl rfl (pao_cons (po_f (pf_lst pad_nil)) (pao_cons (po_d pd_int) pao_nil)) (by rfl))
  refine psd_cons ?_ ?_
  · refine psd_for PassesOwn.never rfl (pid_seq (pd_var 0)) (pgd_tup rfl (pgsd_cons (pgd_name (i := 9) sc__law_my_places.nd rfl (by first | exact .inl rfl | exact .inr rfl)) (pgsd_cons (pgd_name (i := 10) sc__law_my_places.nd rfl (by first | exact .inl rfl | exact .inr rfl)) (pgsd_cons (pgd_name (i := 11) sc__law_my_places.nd rfl (by first | exact .inl rfl | exact .inr rfl)) pgsd_nil)))) ?_
    refine psd_cons ?_ ?_
    · refine (psd_set (i := 12) sc__law_my_places.nd rfl (by first | exact .inl rfl | exact .inr rfl) (pd_dget (room_u1 hr) (pd_var 6) (pd_var 9) (fun _ _ => rfl)))
    refine psd_cons ?_ ?_
    · refine (psd_appR (pr_var (pv 7)) (pd_bin op_add_d (pd_var 8) (pd_ifE (ptd_cmp op_lt_d (pd_var 12) (pd_var 10) (by rfl)) (pd_var 12) (pd_bin op_add_d (pd_var 10) (pd_bin op_mod_d (pd_callTy call_int_d (by rfl) T.n_int (by decide +kernel) (pad_cons (pd_bin op_sub_d (pd_var 12) (pd_var 10)) pad_nil)) (pd_var 11))))))
    refine psd_one ?_
    refine (psd_aug (i := 8) sc__law_my_places.nd rfl (by first | exact .inl rfl | exact .inr rfl) iop_add_d (pd_bin op_add_d (pd_var 10) (pd_var 11)))
  refine psds_frz 7 ?_
  refine psd_one ?_
  refine (psd_ret (pd_var 7))
def _law_my_woven_at_4 : DTS := (dAug oIAdd 5 (dOp oIx (dC (.str (Str.ofString "01"))) (dOp oMod (dCall cInt (dCons (dCall cLen (dCons (dVar 9) dNil)) dNil)) (dC (.int 2)))))
def b__law_my_woven_1 : DTS := (dSeq (dSet 9 (dF (fLc (iSeq (dCall S__law_my_places (dCons (dVar 0) (dCons (dVar 6) (dCons (dVar 7) (dCons (dVar 8) (dCons (dVar 2) (dCons (dVar 3) dNil)))))))) (gN 10) (tBl (dOp oEq (dOp oIx (dVar 1) (dVar 10)) (dC (.str (Str.ofString "1"))))) (dVar 10) [10])))
  _law_my_woven_at_4)
def _law_my_woven_at_5 : DTS := (dRet (dVar 5))
def _law_my_woven_at_2 : DTS := (dSeq (dFor (iSeq (dCall S__law_my_meetings (dCons (dVar 2) (dCons (dVar 3) (dCons (dVar 4) dNil))))) (gT 3 (gsCons (gN 6) (gsCons (gN 7) (gsCons (gN 8) gsNil)))) b__law_my_woven_1)
  _law_my_woven_at_5)
def t__law_my_woven : DTS := (dSeq (dSet 5 (dC (.str (Str.ofString ""))))
  _law_my_woven_at_2)
def S__law_my_woven : FD := fun ds Q => ds.length = 5 ∧ t__law_my_woven { nx := fun _ => Q .non, rt := Q } (startD 11 ds)
theorem len__law_my_woven : ∀ ds Q, S__law_my_woven ds Q → ds.length = 5 := fun _ _ h => h.1
theorem vc__law_my_woven : ∀ ds Q, S__law_my_woven ds Q → t__law_my_woven { nx := fun _ => Q .non, rt := Q } (startD 11 ds) := fun _ _ h => h.2
theorem ok__law_my_woven {P : Program} {w : World} {K : PySem.W.Frag} {mg : Str → Option Value} {base : Heap} {B : Bx} (T : Top K mg B.ct) : FnOk P w K mg base CX0 2 T.f__law_my_woven.f T.f__law_my_woven.fd ["_law_forms", "_law_bits", "_law_n", "_law_m", "_law_rounds"] (spD K B S__law_my_woven) := by
  refine fn_d (k := 1) (t := t__law_my_woven) T.f__law_my_woven.fn sc__law_my_woven len__law_my_woven (fun cdv A outer s H E hr => ?_) vc__law_my_woven
  refine psd_cons ?_ ?_
  · refine (psd_set (i := 5) sc__law_my_woven.nd rfl (by first | exact .inl rfl | exact .inr rfl) pd_str)
  refine psd_cons ?_ ?_
  · refine psd_for PassesOwn.never rfl (pid_seq ?h3) (pgd_tup rfl (pgsd_cons (pgd_name (i := 6) sc__law_my_woven.nd rfl (by first | exact .inl rfl | exact .inr rfl)) (pgsd_cons (pgd_name (i := 7) sc__law_my_woven.nd rfl (by first | exact .inl rfl | exact .inr rfl)) (pgsd_cons (pgd_name (i := 8) sc__law_my_woven.nd rfl (by first | exact .inl rfl | exact .inr rfl)) pgsd_nil)))) ?_
    case h3 => exact (pd_callD T.f__law_my_meetings (ok__law_my_meetings T) hr (by decide) (by rfl) (pad_cons (pd_var 2) (pad_cons (pd_var 3) (pad_cons (pd_var 4) pad_nil))))
    refine psd_cons ?_ ?_
    · refine (psd_setLc (i := 9) rfl sc__law_my_woven.nd rfl rfl (sw_true rfl rfl rfl (by decide +kernel)) (pid_seq ?h4) (blkOk_by (own := [("_law_place", 10)]) (by rfl)) (by decide) (fun _ _ _ _ _ => (pgd_name (i := 10) sc__law_my_woven.nd rfl (by first | exact .inl rfl | exact .inr rfl))) (fun _ _ _ _ _ => (ptsd_one (ptd_cmp (op_eq_d hr.units) (pd_ix ix_d (pd_var 1) (pd_var 10)) pd_str (by rfl)))) (fun _ _ _ _ _ => (pd_var 10)))
      case h4 => exact (pd_callD T.f__law_my_places (ok__law_my_places T) hr (by decide) (by rfl) (pad_cons (pd_var 0) (pad_cons (pd_var 6) (pad_cons (pd_var 7) (pad_cons (pd_var 8) (pad_cons (pd_var 2) (pad_cons (pd_var 3) pad_nil)))))))
    refine psd_one ?_
    refine (psd_aug (i := 5) sc__law_my_woven.nd rfl (by first | exact .inl rfl | exact .inr rfl) iop_add_d (pd_ix ix_d pd_str (pd_bin op_mod_d (pd_callTy call_int_d (by rfl) T.n_int (by decide +kernel) (pad_cons (pd_callB call_len_d (by rfl) T.n_len (by decide +kernel) (pad_cons (pd_var 9) pad_nil)) pad_nil)) pd_int)))
  refine psd_one ?_
  refine (psd_ret (pd_var 5))
/-- a dict that == and repr can read -/
structure DicOk (ks : List (D × D)) : Prop where
  vals : valsP ks = true
  fit : kfit ks ks = true
  eq : eqG (.dic ks) (.dic ks) = true
  rep : RepK ks
def S__law_alike : FD := fun ds Q => match ds with
  | [x, y] => (x = y ∧ ((DL.plain x = true ∧ x.wt ≤ 16000000) ∨ ((∃ xs, x = .lst xs ∨ x = .tup xs) ∧ richX x = true) ∨ ∃ ks, x = .dic ks ∧ DicOk ks)) ∧ Q (.bl true)
  | _ => False
theorem len__law_alike : ∀ ds Q, S__law_alike ds Q → ds.length = 2
  | [_, _], _, _ => rfl
def t__law_alike : DTS := (dRet (dAn (dOp oEqX (dVar 0) (dVar 1)) (dOp oEqX (dCall cReprX (dCons (dVar 0) dNil)) (dCall cReprX (dCons (dVar 1) dNil)))))
theorem eqA_self {x : D} {Q : D → Prop} (h : DL.plain x = true) (hq : Q (.bl true)) : oEqA x x Q := by
  have k : oEq x x Q := eq_self h hq
  cases x with
  | dic ks => cases h
  | _ => exact k
theorem rpA_plain {x : D} {Q : D → Prop} (h : DL.plain x = true) (k : cRepr [x] Q) : cReprA [x] Q := by
  cases x with
  | dic ks => cases h
  | _ => exact k
theorem vc__law_alike : ∀ ds Q, S__law_alike ds Q → t__law_alike { nx := fun _ => Q .non, rt := Q } (startD 2 ds)
  | [x, y], Q, h => by
    obtain ⟨⟨rfl, h⟩, hq⟩ := h
    rcases h with ⟨h1, h2⟩ | ⟨⟨xs, hx⟩, hr⟩ | ⟨ks, rfl, hk⟩
    · show oEqX x x fun z => match z with | .bl c => if c = true then _ else _ | _ => False
      rw [z_eqX]
      refine .inr (eqA_self h1 ?_)
      show cReprX [x] fun u => cReprX [x] fun v => oEqX u v Q
      rw [z_rpX]
      refine .inr (rpA_plain h1 ?_)
      refine ⟨⟨h1, h2⟩, ?_⟩
      show cReprX [x] fun v => oEqX (.str x.py.shown) v Q
      rw [z_rpX]
      refine .inr (rpA_plain h1 ?_)
      refine ⟨⟨h1, h2⟩, ?_⟩
      show oEqX (.str x.py.shown) (.str x.py.shown) Q
      rw [z_eqX]
      refine .inr ?_
      show Q (.bl (decide _))
      rw [decide_eq_true rfl]
      exact hq
    · show oEqX x x fun z => match z with | .bl c => if c = true then _ else _ | _ => False
      rw [z_eqX]
      refine .inl ⟨⟨xs, hx, rfl, hr⟩, ?_⟩
      show cReprX [x] fun u => cReprX [x] fun v => oEqX u v Q
      rw [z_rpX]
      refine .inl ⟨x, xs, rfl, hx, hr, ?_⟩
      show cReprX [x] fun v => oEqX (.str (pyX x).shown) v Q
      rw [z_rpX]
      refine .inl ⟨x, xs, rfl, hx, hr, ?_⟩
      show oEqX (.str (pyX x).shown) (.str (pyX x).shown) Q
      rw [z_eqX]
      refine .inr ?_
      show Q (.bl (decide _))
      rw [decide_eq_true rfl]
      exact hq
    · show oEqX (.dic ks) (.dic ks) fun z => match z with | .bl c => if c = true then _ else _ | _ => False
      rw [z_eqX]
      refine .inr ⟨⟨hk.vals, hk.vals, hk.fit⟩, ?_⟩
      rw [if_neg (by decide), hk.eq]
      show cReprX [.dic ks] fun u => cReprX [.dic ks] fun v => oEqX u v Q
      rw [z_rpX]
      refine .inr ⟨hk.rep, ?_⟩
      show cReprX [.dic ks] fun v => oEqX (.str (kpy ks).shown) v Q
      rw [z_rpX]
      refine .inr ⟨hk.rep, ?_⟩
      show oEqX (.str (kpy ks).shown) (.str (kpy ks).shown) Q
      rw [z_eqX]
      refine .inr ?_
      show Q (.bl (decide _))
      rw [decide_eq_true rfl]
      exact hq
theorem alike_same {d : D} {Q : D → Prop} (h : DL.plain d = true) (hw : d.wt ≤ 16000000) (hq : Q (.bl true)) : S__law_alike [d, d] Q := ⟨⟨rfl, .inl ⟨h, hw⟩⟩, hq⟩
theorem ok__law_alike {P : Program} {w : World} {K : PySem.W.Frag} {mg : Str → Option Value} {base : Heap} {B : Bx} (T : Top K mg B.ct) : FnG P w K mg base CX0 1 T.f__law_alike.f T.f__law_alike.fd ["_law_found", "_law_due"] (spD K B S__law_alike) := by
  refine fng_d (k := 0) (t := t__law_alike) T.f__law_alike.fn sc__law_alike len__law_alike (fun cdv A outer s H E hgd hr => ?_) vc__law_alike
  have hgd : (cxOf CX0 P w K mg base ["_law_found", "_law_due"] "_law_alike" (defScope s__law_alike) T.f__law_alike.f cdv A outer s H E).nox.A.guards = some [] := hgd
  have hu70 : (cxOf CX0 P w K mg base ["_law_found", "_law_due"] "_law_alike" (defScope s__law_alike) T.f__law_alike.f cdv A outer s H E).nox.A.units + 70 < cLine := Nat.lt_of_le_of_lt (Nat.add_le_add_left (by decide : 70 ≤ 16 * 0 + 200) _) hr.un
  refine psd_one ?_
  refine (psd_ret (pd_and (pd_cmp (op_eqX hu70) (pd_var 0) (pd_var 1) (by rfl)) (pd_1 (pd_cmp (op_eqX hu70) (pd_callB (call_reprX hgd hu70) (by rfl) T.n_repr (by decide +kernel) (pad_cons (pd_var 0) pad_nil)) (pd_callB (call_reprX hgd hu70) (by rfl) T.n_repr (by decide +kernel) (pad_cons (pd_var 1) pad_nil)) (by rfl)))))
def _law_my_cut_at_4 : DTS := (dAug oIAdd 3 (dOp oAdd (dVar 5) (dVar 6)))
def b__law_my_cut_1 : DTS := (dSeq (dAppR (rVar 2) (dF (fLst (dCons (dSl (dVar 1) (aP (dVar 3)) (aP (dOp oAdd (dVar 3) (dVar 5)))) (dCons (dSl (dVar 1) (aP (dOp oAdd (dVar 3) (dVar 5))) (aP (dOp oAdd (dOp oAdd (dVar 3) (dVar 5)) (dVar 6)))) dNil)))))
  _law_my_cut_at_4)
def _law_my_cut_at_5 : DTS := (dRetO 2)
def _law_my_cut_at_2 : DTS := (dSeq (dFor (iSeq (dVar 0)) (gT 3 (gsCons (gN 4) (gsCons (gN 5) (gsCons (gN 6) gsNil)))) b__law_my_cut_1)
  _law_my_cut_at_5)
def t__law_my_cut : DTS := (dSeq (dPar2 2 3 (oCons (oF (fLst dNil)) (oCons (oD (dC (.int 0))) oNil)))
  _law_my_cut_at_2)
def S__law_my_cut : FO := fun ds Q => ds.length = 2 ∧ t__law_my_cut { nx := fun _ => Q (.sh .non), rt := fun d => Q (.sh d), ro := Q } (startD 7 ds)
theorem len__law_my_cut : ∀ ds Q, S__law_my_cut ds Q → ds.length = 2 := fun _ _ h => h.1
theorem vc__law_my_cut : ∀ ds Q, S__law_my_cut ds Q → t__law_my_cut { nx := fun _ => Q (.sh .non), rt := fun d => Q (.sh d), ro := Q } (startD 7 ds) := fun _ _ h => h.2
theorem ok__law_my_cut {P : Program} {w : World} {K : PySem.W.Frag} {mg : Str → Option Value} {base : Heap} {B : Bx} (T : Top K mg B.ct) : FnOk P w K mg base CX0 1 T.f__law_my_cut.f T.f__law_my_cut.fd ["_law_forms", "_law_bits"] (spO K B S__law_my_cut) := by
  refine fn_o (k := 0) (t := t__law_my_cut) T.f__law_my_cut.fn sc__law_my_cut len__law_my_cut (fun cdv A outer s H E hr => ?_) vc__law_my_cut
  refine psd_cons ?_ ?_
  · refine (psd_par2 (i := 2) (j := 3) rfl sc__law_my_cut.nd rfl rfl (by decide) rfl rfl (pao_cons (po_f (pf_lst pad_nil)) (pao_cons (po_d pd_int) pao_nil)) (by rfl))
  refine psd_cons ?_ ?_
  · refine psd_for PassesOwn.never rfl (pid_seq (pd_var 0)) (pgd_tup rfl (pgsd_cons (pgd_name (i := 4) sc__law_my_cut.nd rfl (by first | exact .inl rfl | exact .inr rfl)) (pgsd_cons (pgd_name (i := 5) sc__law_my_cut.nd rfl (by first | exact .inl rfl | exact .inr rfl)) (pgsd_cons (pgd_name (i := 6) sc__law_my_cut.nd rfl (by first | exact .inl rfl | exact .inr rfl)) pgsd_nil)))) ?_
    refine psd_cons ?_ ?_
    · refine (psd_appR (pr_var (pv 2)) (pd_f (pf_lst (pad_cons (pd_slice (pd_var 1) (pod_some (pd_var 3)) (pod_some (pd_bin op_add_d (pd_var 3) (pd_var 5)))) (pad_cons (pd_slice (pd_var 1) (pod_some (pd_bin op_add_d (pd_var 3) (pd_var 5))) (pod_some (pd_bin op_add_d (pd_bin op_add_d (pd_var 3) (pd_var 5)) (pd_var 6)))) pad_nil)))))
    refine psd_one ?_
    refine (psd_aug (i := 3) sc__law_my_cut.nd rfl (by first | exact .inl rfl | exact .inr rfl) iop_add_d (pd_bin op_add_d (pd_var 5) (pd_var 6)))
  refine psd_one ?_
  refine (psd_retO (pv 2))
def t__law_my_shown : DTS := (dRet (dIfE (tBl (dOp (oIsN false) (dVar 0) (dC .non))) (dC .non) (dF (fLc (iSeq (dVar 0)) (gN 1) dYes (dF (fLst (dCons (dProp 0 S_Word_early (dVar 1)) (dCons (dProp 0 S_Word_again (dVar 1)) dNil)))) [1]))))
def S__law_my_shown : FD := fun ds Q => ds.length = 1 ∧ t__law_my_shown { nx := fun _ => Q .non, rt := Q } (startD 2 ds)
theorem len__law_my_shown : ∀ ds Q, S__law_my_shown ds Q → ds.length = 1 := fun _ _ h => h.1
theorem vc__law_my_shown : ∀ ds Q, S__law_my_shown ds Q → t__law_my_shown { nx := fun _ => Q .non, rt := Q } (startD 2 ds) := fun _ _ h => h.2
theorem ok__law_my_shown {P : Program} {w : World} {K : PySem.W.Frag} {mg : Str → Option Value} {base : Heap} {B : Bx} (T : Top K mg B.ct) : FnOk P w K mg base CX0 3 T.f__law_my_shown.f T.f__law_my_shown.fd ["_law_words"] (spD K B S__law_my_shown) := by
  refine fn_d (k := 2) (t := t__law_my_shown) T.f__law_my_shown.fn sc__law_my_shown len__law_my_shown (fun cdv A outer s H E hr => ?_) vc__law_my_shown
  refine psd_one ?_
  refine (psd_ret (pd_ifE (ptd_cmp op_isN_d (pd_var 0) pd_non (by rfl)) pd_non (pd_f (pf_lc rfl sc__law_my_shown.nd (pid_seq (pd_var 0)) (blkOk_by (own := [("_law_word", 1)]) (by rfl)) (by decide) (fun _ _ _ _ _ => (pgd_name (i := 1) sc__law_my_shown.nd rfl (by first | exact .inl rfl | exact .inr rfl))) (fun _ _ _ _ _ => ptsd_nil) (fun _ _ _ _ _ => ?h2)))))
  case h2 => exact (pd_f (pf_lst (pad_cons (pd_propD T.c_Word T.p_Word_early (r_Word_early T) hr (by decide) (pd_var 1)) (pad_cons (pd_propD T.c_Word T.p_Word_again (r_Word_again T) hr (by decide) (pd_var 1)) pad_nil))))
def b__law_my_strings_1 : DTS := (dSet 3 (dOp oAdd (dVar 3) (dF (fLst (dCons (dOp oAdd (dVar 4) (dC (.str (Str.ofString "0")))) (dCons (dOp oAdd (dVar 4) (dC (.str (Str.ofString "1")))) dNil))))))
def _law_my_strings_at_6 : DTS := (dSet 1 (dVar 3))
def _law_my_strings_at_4 : DTS := (dSeq (dFor (iSeq (dVar 1)) (gN 4) b__law_my_strings_1)
  _law_my_strings_at_6)
def b__law_my_strings_2 : DTS := (dSeq (dSet 3 (dF (fLst dNil)))
  _law_my_strings_at_4)
def _law_my_strings_at_7 : DTS := (dRet (dVar 1))
def _law_my_strings_at_2 : DTS := (dSeq (dFor (iR1 (dCons (dVar 0) dNil)) (gN 2) b__law_my_strings_2)
  _law_my_strings_at_7)
def t__law_my_strings : DTS := (dSeq (dSet 1 (dF (fLst (dCons (dC (.str (Str.ofString ""))) dNil))))
  _law_my_strings_at_2)
def S__law_my_strings : FD := fun ds Q => ds.length = 1 ∧ t__law_my_strings { nx := fun _ => Q .non, rt := Q } (startD 5 ds)
theorem len__law_my_strings : ∀ ds Q, S__law_my_strings ds Q → ds.length = 1 := fun _ _ h => h.1
theorem vc__law_my_strings : ∀ ds Q, S__law_my_strings ds Q → t__law_my_strings { nx := fun _ => Q .non, rt := Q } (startD 5 ds) := fun _ _ h => h.2
theorem ok__law_my_strings {P : Program} {w : World} {K : PySem.W.Frag} {mg : Str → Option Value} {base : Heap} {B : Bx} (T : Top K mg B.ct) : FnOk P w K mg base CX0 1 T.f__law_my_strings.f T.f__law_my_strings.fd ["_law_size"] (spD K B S__law_my_strings) := by
  refine fn_d (k := 0) (t := t__law_my_strings) T.f__law_my_strings.fn sc__law_my_strings len__law_my_strings (fun cdv A outer s H E hr => ?_) vc__law_my_strings
  refine psd_cons ?_ ?_
  · refine (psd_set (i := 1) sc__law_my_strings.nd rfl (by first | exact .inl rfl | exact .inr rfl) (pd_f (pf_lst (pad_cons pd_str pad_nil))))
  refine psd_cons ?_ ?_
  · refine psd_for PassesOwn.never rfl (pid_r1 (by rfl) T.n_range (pad_cons (pd_var 0) pad_nil)) (pgd_name (i := 2) sc__law_my_strings.nd rfl (by first | exact .inl rfl | exact .inr rfl)) ?_
    refine psd_cons ?_ ?_
    · refine (psd_set (i := 3) sc__law_my_strings.nd rfl (by first | exact .inl rfl | exact .inr rfl) (pd_f (pf_lst pad_nil)))
    refine psd_cons ?_ ?_
    · refine psd_for PassesOwn.never rfl (pid_seq (pd_var 1)) (pgd_name (i := 4) sc__law_my_strings.nd rfl (by first | exact .inl rfl | exact .inr rfl)) ?_
      refine psd_one ?_
      refine (psd_set (i := 3) sc__law_my_strings.nd rfl (by first | exact .inl rfl | exact .inr rfl) (pd_bin op_add_d (pd_var 3) (pd_f (pf_lst (pad_cons (pd_bin op_add_d (pd_var 4) pd_str) (pad_cons (pd_bin op_add_d (pd_var 4) pd_str) pad_nil))))))
    refine psd_one ?_
    refine (psd_set (i := 1) sc__law_my_strings.nd rfl (by first | exact .inl rfl | exact .inr rfl) (pd_var 3))
  refine psd_one ?_
  refine (psd_ret (pd_var 1))
def b__law_right_1 : DTS := (dIfS (tBl (dOp oEq (dCall S__law_my_woven (dCons (dVar 2) (dCons (dVar 7) (dCons (dVar 3) (dCons (dVar 4) (dCons (dVar 5) dNil)))))) (dVar 1))) (dAppR (rVar 6) (dVar 7)) dNext)
def _law_right_at_11 : DTS := (dIfS (tIfOw 11 (tBor 11 (tBl (dOp (oIsN true) (dVar 11) (dC .non)))) (tBl (dOp (oIsN true) (dVar 11) (dC .non)))) (dAppR (rVar 11) (dC .non)) dNext)
def _law_right_at_9 : DTS := (dNorm 11 (dSeq (dIfS (tIfOw 11 (tBor 11 (tNt (tBl (dCall S__law_alike (dCons (dF (fLst (dCons (dCall S__law_my_shown (dCons (dVar 11) dNil)) (dCons (dCall S_many_told (dCons (dVar 0) (dCons (dVar 2) dNil))) dNil)))) (dCons (dF (fLst (dCons (dVar 8) (dCons (dCall cLen (dCons (dVar 6) dNil)) dNil)))) dNil)))))) (tNt (tBl (dCall S__law_alike (dCons (dF (fLst (dCons (dCall S__law_my_shown (dCons (dVar 11) dNil)) (dCons (dCall S_many_told (dCons (dVar 0) (dCons (dVar 2) dNil))) dNil)))) (dCons (dF (fLst (dCons (dVar 8) (dCons (dCall cLen (dCons (dVar 6) dNil)) dNil)))) dNil)))))) (dRet (dC (.bl false))) dNext)
  _law_right_at_11))
def b__law_right_2 : DTS := (dSeq (dSetT 11 (oCall S_told_back (dCons (dVar 0) (dCons (dVar 2) dNil))))
  _law_right_at_9)
def _law_right_at_13 : DTS := (dRet (dOp oEq (dCall cReprN (dCons (dF (fLst (dCons (dVar 0) (dCons (dVar 2) dNil)))) dNil)) (dVar 9)))
def _law_right_at_7 : DTS := (dSeq (dFor (iR1 (dCons (dC (.int 2)) dNil)) (gN 10) b__law_right_2)
  _law_right_at_13)
def _law_right_at_6 : DTS := (dSeq (dSet 9 (dCall cReprN (dCons (dF (fLst (dCons (dVar 0) (dCons (dVar 2) dNil)))) dNil)))
  _law_right_at_7)
def _law_right_at_5 : DTS := (dFrz 6 (dSeq (dSet 8 (dIfE (tBl (dOp oNe (dVar 6) (dF (fLst dNil)))) (dFz (oCall S__law_my_cut (dCons (dVar 2) (dCons (dOp oIx (dVar 6) (dC (.int 0))) dNil)))) (dC .non)))
  _law_right_at_6))
def _law_right_at_2 : DTS := (dSeq (dFor (iSeq (dCall S__law_my_strings (dCons (dCall S__law_my_size (dCons (dVar 2) dNil)) dNil))) (gN 7) b__law_right_1)
  _law_right_at_5)
def t__law_right : DTS := (dSeq (dSetT 6 (oF (fLst dNil)))
  _law_right_at_2)
def S__law_right : FD := fun ds Q => ds.length = 6 ∧ t__law_right { nx := fun _ => Q .non, rt := Q } (startD 12 ds)
theorem len__law_right : ∀ ds Q, S__law_right ds Q → ds.length = 6 := fun _ _ h => h.1
theorem vc__law_right : ∀ ds Q, S__law_right ds Q → t__law_right { nx := fun _ => Q .non, rt := Q } (startD 12 ds) := fun _ _ h => h.2
theorem ok__law_right {P : Program} {w : World} {K : PySem.W.Frag} {mg : Str → Option Value} {base : Heap} {B : Bx} (T : Top K mg B.ct) : FnG P w K mg base CX0 5 T.f__law_right.f T.f__law_right.fd ["_law_cloth", "_law_text", "_law_forms", "_law_n", "_law_m", "_law_rounds"] (spD K B S__law_right) := by
  refine fng_d (k := 4) (t := t__law_right) T.f__law_right.fn sc__law_right len__law_right (fun cdv A outer s H E hgd hr => ?_) vc__law_right
  have hgd : (cxOf CX0 P w K mg base ["_law_cloth", "_law_text", "_law_forms", "_law_n", "_law_m", "_law_rounds", "_law_every", "_law_bits", "_law_due", "_law_kept", "_law_again", "_law_found"] "_law_right" (defScope s__law_right) T.f__law_right.f cdv A outer s H E).nox.A.guards = some [] := hgd
  have hu70 : (cxOf CX0 P w K mg base ["_law_cloth", "_law_text", "_law_forms", "_law_n", "_law_m", "_law_rounds", "_law_every", "_law_bits", "_law_due", "_law_kept", "_law_again", "_law_found"] "_law_right" (defScope s__law_right) T.f__law_right.f cdv A outer s H E).nox.A.units + 70 < cLine := Nat.lt_of_le_of_lt (Nat.add_le_add_left (by decide : 70 ≤ 16 * 4 + 200) _) hr.un
  refine psd_cons ?_ ?_
  · refine (psd_setT (i := 6) sc__law_right.nd rfl (by first | exact .inl rfl | exact .inr rfl) (po_f (pf_lst pad_nil)))
  refine psd_cons ?_ ?_
  · refine psd_for PassesOwn.never rfl (pid_seq ?h2) (pgd_name (i := 7) sc__law_right.nd rfl (by first | exact .inl rfl | exact .inr rfl)) ?_
    case h2 => exact (pd_callD T.f__law_my_strings (ok__law_my_strings T) hr (by decide) (by rfl) (pad_cons (pd_callD T.f__law_my_size (ok__law_my_size T) hr (by decide) (by rfl) (pad_cons (pd_var 2) pad_nil)) pad_nil))
    refine psd_one ?_
    refine psd_if (ptd_cmp (op_eq_d hr.units) (pd_callD T.f__law_my_woven (ok__law_my_woven T) hr (by decide) (by rfl) (pad_cons (pd_var 2) (pad_cons (pd_var 7) (pad_cons (pd_var 3) (pad_cons (pd_var 4) (pad_cons (pd_var 5) pad_nil)))))) (pd_var 1) (by rfl)) ?_ ?_
    · refine psd_one ?_
      refine (psd_appR (pr_var (pv 6)) (pd_var 7))
    · exact psd_nil
  refine psds_frz 6 ?_
  refine psd_cons ?_ ?_
  · refine (psd_set (i := 8) sc__law_right.nd rfl (by first | exact .inl rfl | exact .inr rfl) (pd_ifE (ptd_cmp (op_ne_d hr.units) (pd_var 6) (pd_f (pf_lst pad_nil)) (by rfl)) (pd_fz (po_callD T.f__law_my_cut (ok__law_my_cut T) hr (by decide) (by rfl) (pad_cons (pd_var 2) (pad_cons (pd_ix ix_d (pd_var 6) pd_int) pad_nil)))) pd_non))
  refine psd_cons ?_ ?_
  · refine (psd_set (i := 9) sc__law_right.nd rfl (by first | exact .inl rfl | exact .inr rfl) (pd_callB (call_reprN hgd hu70) (by rfl) T.n_repr (by decide +kernel) (pad_cons (pd_f (pf_lst (pad_cons (pd_var 0) (pad_cons (pd_var 2) pad_nil)))) pad_nil)))
  refine psd_cons ?_ ?_
  · refine psd_for PassesOwn.never rfl (pid_r1 (by rfl) T.n_range (pad_cons pd_int pad_nil)) (pgd_name (i := 10) sc__law_right.nd rfl (by first | exact .inl rfl | exact .inr rfl)) ?_
    refine psd_cons ?_ ?_
    · refine (psd_setT (i := 11) sc__law_right.nd rfl (by first | exact .inl rfl | exact .inr rfl) (po_callD T.f_told_back (ok_told_back T) hr (by decide) (by rfl) (pad_cons (pd_var 0) (pad_cons (pd_var 2) pad_nil))))
    refine psds_norm 11 ?_
    refine psd_cons ?_ ?_
    · refine psd_if (ptd_ifOw (ptd_bor 11 (ptd_not (ptd_val (pd_callDG T.f__law_alike (ok__law_alike T) hgd hr (by decide) (by rfl) (pad_cons (pd_f (pf_lst (pad_cons (pd_callD T.f__law_my_shown (ok__law_my_shown T) hr (by decide) (by rfl) (pad_cons (pd_var 11) pad_nil)) (pad_cons (pd_callD T.f_many_told (ok_many_told T) hr (by decide) (by rfl) (pad_cons (pd_var 0) (pad_cons (pd_var 2) pad_nil))) pad_nil)))) (pad_cons (pd_f (pf_lst (pad_cons (pd_var 8) (pad_cons (pd_callB call_len_d (by rfl) T.n_len (by decide +kernel) (pad_cons (pd_var 6) pad_nil)) pad_nil)))) pad_nil)))))) (ptd_not (ptd_val (pd_callDG T.f__law_alike (ok__law_alike T) hgd hr (by decide) (by rfl) (pad_cons (pd_f (pf_lst (pad_cons (pd_callD T.f__law_my_shown (ok__law_my_shown T) hr (by decide) (by rfl) (pad_cons (pd_var 11) pad_nil)) (pad_cons (pd_callD T.f_many_told (ok_many_told T) hr (by decide) (by rfl) (pad_cons (pd_var 0) (pad_cons (pd_var 2) pad_nil))) pad_nil)))) (pad_cons (pd_f (pf_lst (pad_cons (pd_var 8) (pad_cons (pd_callB call_len_d (by rfl) T.n_len (by decide +kernel) (pad_cons (pd_var 6) pad_nil)) pad_nil)))) pad_nil)))))) ?_ ?_
      · refine psd_one ?_
        refine (psd_ret pd_bl)
      · exact psd_nil
    refine psd_one ?_
    refine psd_if (ptd_ifOw (ptd_bor 11 (ptd_cmp op_notN_d (pd_var 11) pd_non (by rfl))) (ptd_cmp op_notN_d (pd_var 11) pd_non (by rfl))) ?_ ?_
    · refine psd_one ?_
      refine (psd_appR (pr_var (pv 11)) pd_non)
    · exact psd_nil
  refine psd_one ?_
  refine (psd_ret (pd_cmp (op_eq_d hr.units) (pd_callB (call_reprN hgd hu70) (by rfl) T.n_repr (by decide +kernel) (pad_cons (pd_f (pf_lst (pad_cons (pd_var 0) (pad_cons (pd_var 2) pad_nil)))) pad_nil)) (pd_var 9) (by rfl)))
def law_at_9 : DTS := (dSet 8 (dOp oAdd (dOp oAdd (dSl (dVar 8) noP (aP (dVar 9))) (dDGet (dDic [Str.ofString "0", Str.ofString "1"] (dCons (dC (.str (Str.ofString "1"))) (dCons (dC (.str (Str.ofString "0"))) dNil))) (dOp oIx (dVar 8) (dVar 9)))) (dSl (dVar 8) (aP (dOp oAdd (dVar 9) (dC (.int 1)))) noP)))
def law_at_13 : DTS := (dIfS (tNt (tBl (dCall S__law_right (dCons (dVar 10) (dCons (dVar 8) (dCons (dVar 6) (dCons (dVar 3) (dCons (dVar 4) (dCons (dVar 5) dNil))))))))) (dRet (dC (.bl false))) dNext)
def law_at_12 : DTS := (dSeq (dSet 10 (dFz (oCall S__law_my_shuffled (dCons (dVar 1) (dCons (dCall S__law_my_crossings (dCons (dVar 8) (dCons (dVar 3) (dCons (dVar 4) (dCons (dVar 5) dNil))))) dNil)))))
  law_at_13)
def law_at_10 : DTS := (dSeq (dIfS (tBl (dOp oEq (dCall S__law_take (dCons (dVar 1) (dCons (dC (.int 6)) dNil))) (dC (.int 0)))) (dSet 8 (dMt "str" mJoin (dC (.str (Str.ofString ""))) (dCons (dF (fLc (iR1 (dCons (dCall cLen (dCons (dVar 8) dNil)) dNil)) (gN 11) dYes (dOp oIx (dC (.str (Str.ofString "01"))) (dCall S__law_take (dCons (dVar 1) (dCons (dC (.int 2)) dNil)))) [11])) dNil))) dNext)
  law_at_12)
def law_at_7 : DTS := (dSeq (dIfS (tBl (dOp oEq (dCall S__law_take (dCons (dVar 1) (dCons (dC (.int 3)) dNil))) (dC (.int 0)))) (dSeq (dSet 9 (dCall S__law_take (dCons (dVar 1) (dCons (dCall cLen (dCons (dVar 8) dNil)) dNil))))
  law_at_9) dNext)
  law_at_10)
def law_at_6 : DTS := (dSeq (dSet 8 (dCall S__law_my_woven (dCons (dVar 6) (dCons (dVar 7) (dCons (dVar 3) (dCons (dVar 4) (dCons (dVar 5) dNil)))))))
  law_at_7)
def law_at_5 : DTS := (dSeq (dSet 7 (dMt "str" mJoin (dC (.str (Str.ofString ""))) (dCons (dF (fLc (iR1 (dCons (dCall S__law_my_size (dCons (dVar 6) dNil)) dNil)) (gN 11) dYes (dOp oIx (dC (.str (Str.ofString "01"))) (dCall S__law_take (dCons (dVar 1) (dCons (dC (.int 2)) dNil)))) [11])) dNil)))
  law_at_6)
def law_at_4 : DTS := (dSeq (dSet 6 (dCall S__law_my_forms (dCons (dVar 1) (dCons (dC (.int 4)) (dCons (dC (.int 8)) dNil)))))
  law_at_5)
def b_law_1 : DTS := (dSeq (dPar3 3 4 5 (oCons (oD (dOp oAdd (dC (.int 1)) (dCall S__law_take (dCons (dVar 1) (dCons (dC (.int 4)) dNil))))) (oCons (oD (dOp oAdd (dC (.int 1)) (dCall S__law_take (dCons (dVar 1) (dCons (dC (.int 4)) dNil))))) (oCons (oD (dOp oAdd (dC (.int 1)) (dCall S__law_take (dCons (dVar 1) (dCons (dC (.int 3)) dNil))))) oNil))))
  law_at_4)
def law_at_15 : DTS := (dRet (dC (.bl true)))
def t_law : DTS := (dSeq (dFor (iR1 (dCons (dC (.int 2)) dNil)) (gN 2) b_law_1)
  law_at_15)
theorem zS_ii {k : Int} : isi "int" (.int k) = true := by rfl
theorem zS_bi {k : Int} : isi "bool" (.int k) = false := by rfl
theorem take_of {n : Int} {Q : D → Prop} (h0 : 0 < n) (h1 : n ≤ 1000) (hq : ∀ v : Int, 0 ≤ v → v < n → Q (.int v)) : S__law_take [.bag, .int n] Q := ⟨⟨h0, small_log h0 (by omega)⟩, hq⟩
theorem forD_c {g : DG} {tb : DTS} {W : DEnds} {d : D} {ds : List D} {δ : DS} : forD g tb W (d :: ds) δ = g d δ fun δ' => tb { W with nx := forD g tb W ds, ct := forD g tb W ds, bk := W.nx } δ' := propext Iff.rfl
theorem forD_n {g : DG} {tb : DTS} {W : DEnds} {δ : DS} : forD g tb W [] δ = W.nx δ := propext Iff.rfl
theorem zS_ownO {K : V → OD → Prop} {v : V} {x : OD} : ownO (some (some (.ow v x))) K = K v x := propext Iff.rfl
section
theorem xor_and_sum : ∀ x y : Nat, x + y = (x ^^^ y) + 2 * (x &&& y) := by
  intro x
  induction x using Nat.strongRecOn with
  | _ x ih =>
    intro y
    by_cases hx : x = 0
    · subst hx
      rw [Nat.zero_xor, Nat.zero_and]
      omega
    · have h := ih (x / 2) (by omega) (y / 2)
      have e1 : (x ^^^ y) / 2 = x / 2 ^^^ y / 2 := Nat.xor_div_two
      have e2 : (x &&& y) / 2 = x / 2 &&& y / 2 := Nat.and_div_two
      have e3 : (x ^^^ y) % 2 = (x + y) % 2 := by
        have := @Nat.xor_mod_two_eq_one x y
        omega
      have e4 : (x &&& y) % 2 = x % 2 * (y % 2) := by
        have := @Nat.and_mod_two_eq_one x y
        rcases Nat.mod_two_eq_zero_or_one x with a | a <;> rcases Nat.mod_two_eq_zero_or_one y with b | b <;> rw [a, b] <;> omega
      generalize x ^^^ y = A at e1 e3 ⊢
      generalize x &&& y = C at e2 e4 ⊢
      generalize x / 2 ^^^ y / 2 = A2 at e1 h
      generalize x / 2 &&& y / 2 = C2 at e2 h
      rcases Nat.mod_two_eq_zero_or_one x with a | a <;> rcases Nat.mod_two_eq_zero_or_one y with b | b <;> rw [a, b] at e4 <;> omega
theorem bxor_nat (a b : Nat) : Builtin.bitXor (a : Int) b = ((a ^^^ b : Nat) : Int) := by
  unfold Builtin.bitXor
  rw [bitOr_and]
  have h := xor_and_sum a b
  have e : Builtin.bitAnd (a : Int) b = ((a &&& b : Nat) : Int) := by
    unfold Builtin.bitAnd
    rw [decide_eq_true (by omega), decide_eq_true (by omega)]
    rfl
  rw [e]
  omega
theorem lead_bit {x : Nat} (h : 0 < x) : x.testBit x.log2 = true ∧ x < 2 ^ (x.log2 + 1) := by
  have h0 : x ≠ 0 := by omega
  have a1 := Nat.log2_self_le h0
  have a2 : x < 2 ^ (x.log2 + 1) := (Nat.log2_lt h0).mp (by omega)
  refine ⟨?_, a2⟩
  rw [Nat.testBit_eq_decide_div_mod_eq, decide_eq_true_iff]
  have e : x / 2 ^ x.log2 = 1 := by
    have p0 : 0 < 2 ^ x.log2 := Nat.two_pow_pos _
    have l1 : 1 ≤ x / 2 ^ x.log2 := (Nat.le_div_iff_mul_le p0).mpr (by omega)
    have l2 : x / 2 ^ x.log2 < 2 := (Nat.div_lt_iff_lt_mul p0).mpr (by rw [Nat.pow_succ] at a2; omega)
    omega
  rw [e]
theorem above_lead {x j : Nat} (h : x.log2 < j) : x.testBit j = false := by
  by_cases h0 : x = 0
  · rw [h0, Nat.zero_testBit]
  · exact Nat.testBit_lt_two_pow (Nat.lt_of_lt_of_le (lead_bit (by omega)).2 (Nat.pow_le_pow_right (by decide) h))
theorem lt_bits {x y : Nat} (i : Nat) (h1 : x.testBit i = false) (h2 : y.testBit i = true) (h3 : ∀ j, i < j → x.testBit j = y.testBit j) : x < y := by
  rw [Nat.testBit_eq_decide_div_mod_eq] at h1 h2
  have h1 := of_decide_eq_false h1
  have h2 := of_decide_eq_true h2
  have e : x / 2 ^ (i + 1) = y / 2 ^ (i + 1) := by
    apply Nat.eq_of_testBit_eq
    intro j
    rw [Nat.testBit_div_two_pow, Nat.testBit_div_two_pow]
    exact h3 _ (by omega)
  rw [Nat.pow_succ, ← Nat.div_div_eq_div_mul, ← Nat.div_div_eq_div_mul] at e
  have l : x / 2 ^ i < y / 2 ^ i := by omega
  exact Nat.lt_of_not_le fun z => by
    have := Nat.div_le_div_right (c := 2 ^ i) z
    omega
end
section
/-- what a choice of some numbers makes -/
def cl : List Nat → (Nat → Bool) → Nat
  | [], _ => 0
  | r :: l, b => (if b 0 = true then r else 0) ^^^ cl l fun i => b (i + 1)
end
section
def cB : Bool → Nat
  | true => 49
  | false => 48
def bT (l : List Bool) : Str := ofCodes (l.map cB)
theorem getD_ext {a b : List Bool} (hl : a.length = b.length) (h : ∀ k, k < a.length → a.getD k false = b.getD k false) : a = b := by
  apply List.ext_getElem hl
  intro k h1 h2
  have := h k h1
  rwa [← List.getElem_eq_getD (h := h1), ← List.getElem_eq_getD (h := h2)] at this
theorem cB_inj {a b : Bool} (h : cB a = cB b) : a = b := by
  cases a <;> cases b <;> first | rfl | cases h
theorem bT_codes (l : List Bool) : (bT l).cps.toList = l.map cB := tl_codes _
theorem bT_len (l : List Bool) : (bT l).length = l.length := by
  unfold bT
  rw [codes_len, List.length_map]
theorem map_cB_inj : ∀ {a b : List Bool}, a.map cB = b.map cB → a = b
  | [], [], _ => rfl
  | [], _ :: _, h => by cases h
  | _ :: _, [], h => by cases h
  | x :: a, y :: b, h => by
    rw [List.map_cons, List.map_cons] at h
    injection h with h1 h2
    rw [cB_inj h1, map_cB_inj h2]
theorem bT_inj {a b : List Bool} (h : bT a = bT b) : a = b := map_cB_inj (by rw [← bT_codes, ← bT_codes, h])
theorem bT_app (a b : List Bool) : bT a ++ bT b = bT (a ++ b) := by
  apply str_ext
  rw [bT_codes, List.map_append, ← bT_codes, ← bT_codes]
  exact Array.toList_append
theorem bT_ok (l : List Bool) : PyData.strOk (bT l) = true := by
  unfold PyData.strOk
  rw [← Array.all_toList, List.all_eq_true, bT_codes]
  intro c hc
  obtain ⟨b, _, rfl⟩ := List.mem_map.mp hc
  cases b <;> decide +kernel
end
section
/-- whether an odd number of the chosen places is met -/
def par (pl : List Nat) (b : Nat → Bool) : Bool := pl.foldl (fun t p => t ^^ b p) false
def mk2 (pl : List Nat) (a : Nat) : Nat := pl.foldl (fun a p => a ^^^ 2 ^ p) a
def xb (f : Nat → Bool) : Nat → Bool
  | 0 => false
  | n + 1 => xb f n ^^ f n
theorem xb_add (f g : Nat → Bool) : ∀ n, xb (fun c => f c ^^ g c) n = (xb f n ^^ xb g n)
  | 0 => rfl
  | n + 1 => by
    rw [xb, xb, xb, xb_add f g n]
    cases xb f n <;> cases xb g n <;> cases f n <;> cases g n <;> rfl
theorem xb_congr {f g : Nat → Bool} : ∀ n, (∀ c, c < n → f c = g c) → xb f n = xb g n
  | 0, _ => rfl
  | n + 1, h => by rw [xb, xb, xb_congr n fun c hc => h c (by omega), h n (by omega)]
theorem xb_false : ∀ n, xb (fun _ => false) n = false
  | 0 => rfl
  | n + 1 => by rw [xb, xb_false n]; rfl
theorem xb_one (b : Nat → Bool) (p : Nat) : ∀ n, xb (fun c => b c && decide (p = c)) n = (decide (p < n) && b p)
  | 0 => by rw [xb, decide_eq_false (show ¬ p < 0 by omega)]; rfl
  | n + 1 => by
    rw [xb, xb_one b p n]
    rcases Nat.lt_trichotomy p n with q | q | q
    · rw [decide_eq_true q, decide_eq_false (show ¬ p = n by omega), decide_eq_true (show p < n + 1 by omega), Bool.and_false, Bool.xor_false]
    · subst q
      rw [decide_eq_false (Nat.lt_irrefl p), decide_eq_true rfl, decide_eq_true (Nat.lt_succ_self p), Bool.and_true, Bool.true_and, Bool.false_and, Bool.false_xor]
    · rw [decide_eq_false (show ¬ p < n by omega), decide_eq_false (show ¬ p = n by omega), decide_eq_false (show ¬ p < n + 1 by omega), Bool.and_false, Bool.false_and]
      rfl
theorem par_go (b : Nat → Bool) (C : Nat) : ∀ (pl : List Nat) (a : Nat), (∀ p ∈ pl, p < C) → xb (fun c => b c && (mk2 pl a).testBit c) C = pl.foldl (fun t p => t ^^ b p) (xb (fun c => b c && a.testBit c) C)
  | [], _, _ => rfl
  | p :: pl, a, h => by
    have e : mk2 (p :: pl) a = mk2 pl (a ^^^ 2 ^ p) := rfl
    rw [e, par_go b C pl _ fun q hq => h q (List.mem_cons_of_mem _ hq), List.foldl_cons]
    congr 1
    have e2 : (fun c => b c && (a ^^^ 2 ^ p).testBit c) = fun c => (b c && a.testBit c) ^^ (b c && decide (p = c)) := funext fun c => by
      rw [Nat.testBit_xor, Nat.testBit_two_pow]
      cases b c <;> cases a.testBit c <;> cases decide (p = c) <;> rfl
    rw [e2, xb_add, xb_one, decide_eq_true (h p List.mem_cons_self), Bool.true_and]
theorem par_mk {pl : List Nat} {C : Nat} (b : Nat → Bool) (h : ∀ p ∈ pl, p < C) : xb (fun c => b c && (mk2 pl 0).testBit c) C = par pl b := by
  rw [par_go b C pl 0 h]
  have e : xb (fun c => b c && (0 : Nat).testBit c) C = false := by
    rw [xb_congr (g := fun _ => false) C fun c _ => by rw [Nat.zero_testBit, Bool.and_false]]
    exact xb_false C
  rw [e]
  rfl
def wvn (pss : List (List Nat)) (b : Nat → Bool) : List Bool := pss.map fun pl => par pl b
end
section
abbrev Fm := Nat × Nat × Nat
abbrev Mt3 := Nat × Nat × Nat
def rdN : Nat → Str
  | 0 => Str.ofString "turns"
  | 1 => Str.ofString "others"
  | 2 => Str.ofString "rounds"
  | 3 => Str.ofString "suns"
  | _ => Str.ofString "moons"
def nmb (n m : Nat) (x : Mt3) : Nat → Nat
  | 0 => x.1 * m + x.2.2
  | 1 => x.1 * n + x.2.1
  | 2 => x.1
  | 3 => x.2.1
  | _ => x.2.2
def fmD (f : Fm) : D := .tup [.str (rdN f.1), .int f.2.1, .int f.2.2]
abbrev fsD (fs : List Fm) : D := .lst (fs.map fmD)
def mtD (x : Mt3) : D := .tup [.int x.1, .int x.2.1, .int x.2.2]
def FsOk (fs : List Fm) : Prop := ∀ f ∈ fs, f.1 < 5 ∧ 0 < f.2.2
def szF : List Fm → Nat
  | [] => 0
  | f :: fs => f.2.1 + f.2.2 + szF fs
def spotF (f : Fm) (y : Nat) : Nat := if y < f.2.1 then y else f.2.1 + (y - f.2.1) % f.2.2
def pls (n m : Nat) (x : Mt3) : List Fm → Nat → List Nat
  | [], _ => []
  | f :: fs, a => (a + spotF f (nmb n m x f.1)) :: pls n m x fs (a + f.2.1 + f.2.2)
theorem spotF_lt {f : Fm} (h : 0 < f.2.2) (y : Nat) : spotF f y < f.2.1 + f.2.2 := by
  unfold spotF
  have := Nat.mod_lt (y - f.2.1) h
  split <;> omega
theorem pls_lt (n m : Nat) (x : Mt3) : ∀ (fs : List Fm) (a : Nat), FsOk fs → ∀ p ∈ pls n m x fs a, p < a + szF fs
  | [], _, _, _, h => nomatch h
  | f :: fs, a, hf, p, h => by
    rw [szF]
    rcases List.mem_cons.mp h with rfl | h
    · have := spotF_lt (hf f List.mem_cons_self).2 (nmb n m x f.1)
      omega
    · have := pls_lt n m x fs _ (fun g hg => hf g (List.mem_cons_of_mem _ hg)) p h
      omega
def mts (n m R : Nat) : List Mt3 := (List.range R).flatMap fun r => (List.range n).flatMap fun i => (List.range m).map fun j => (r, i, j)
theorem flat_len {α β : Type} (f : α → List β) (k : Nat) : ∀ l : List α, (∀ a ∈ l, (f a).length = k) → (l.flatMap f).length = l.length * k
  | [], _ => by rw [List.flatMap_nil, List.length_nil, List.length_nil, Nat.zero_mul]
  | a :: l, h => by
    rw [List.flatMap_cons, List.length_append, h a List.mem_cons_self, flat_len f k l fun b hb => h b (List.mem_cons_of_mem _ hb), List.length_cons, Nat.add_mul, Nat.one_mul, Nat.add_comm]
theorem mts_len (n m R : Nat) : (mts n m R).length = R * (n * m) := by
  unfold mts
  rw [flat_len _ (n * m) _ fun r _ => by rw [flat_len _ m _ fun i _ => by rw [List.length_map, List.length_range], List.length_range], List.length_range]
theorem mem_mts {n m R : Nat} {x : Mt3} : x ∈ mts n m R ↔ x.1 < R ∧ x.2.1 < n ∧ x.2.2 < m := by
  unfold mts
  rw [List.mem_flatMap]
  constructor
  · rintro ⟨r, hr, h⟩
    obtain ⟨i, hi, h⟩ := List.mem_flatMap.mp h
    obtain ⟨j, hj, rfl⟩ := List.mem_map.mp h
    exact ⟨List.mem_range.mp hr, List.mem_range.mp hi, List.mem_range.mp hj⟩
  · rintro ⟨h1, h2, h3⟩
    exact ⟨x.1, List.mem_range.mpr h1, List.mem_flatMap.mpr ⟨x.2.1, List.mem_range.mpr h2, List.mem_map.mpr ⟨x.2.2, List.mem_range.mpr h3, rfl⟩⟩⟩
def pss (n m R : Nat) (fs : List Fm) : List (List Nat) := (mts n m R).map fun x => pls n m x fs 0
/-- numbers as the law draws them -/
structure Szs (n m R : Nat) (fs : List Fm) : Prop where
  n0 : 0 < n
  m0 : 0 < m
  R0 : 0 < R
  n8 : n ≤ 8
  m8 : m ≤ 8
  R6 : R ≤ 6
  ok : FsOk fs
  sz : szF fs ≤ 40
end
section
variable {n m R : Nat} {fs : List Fm} {x : Mt3} {Q : D → Prop} {W : DEnds} {o0 o1 o2 o3 o4 o5 o6 o7 o8 o9 o10 o11 o12 o13 : Option SD}
theorem lcG_of {α : Type} {i : Nat} {bd : BdD} {δ : DS} {K : List D → Prop} (g : α → D) (h : α → List D) : ∀ (xs : List α) (acc : List D), acc.length + (xs.flatMap h).length ≤ sizeLine → (∀ x ∈ xs, ∀ (R : List D → Prop) (a : List D), a.length + (h x).length ≤ sizeLine → R (a ++ h x) → bd (δ.set i (some (.sh (g x)))) R a) → K (acc ++ xs.flatMap h) → lcG (gN i) dYes bd δ K (xs.map g) acc
  | [], acc, _, _, hk => by
    rw [List.flatMap_nil, List.append_nil] at hk
    exact hk
  | x :: xs, acc, hz, hb, hk => by
    rw [List.flatMap_cons, List.length_append] at hz
    show bd (δ.set i (some (.sh (g x)))) (fun a => lcG (gN i) dYes bd δ K (xs.map g) a) acc
    refine hb x List.mem_cons_self _ acc (by omega) (lcG_of g h xs _ (by rw [List.length_append]; omega) (fun y hy => hb y (List.mem_cons_of_mem _ hy)) ?_)
    rw [List.append_assoc, ← List.flatMap_cons]
    exact hk
theorem ups_r (n : Nat) : ups 0 n = (List.range n).map fun k : Nat => D.int (k : Int) := List.map_congr_left fun k _ => by rw [Int.zero_add]
theorem shl_nat (k : Nat) : (1 : Int) * 2 ^ ((k : Int)).toNat = ((2 ^ k : Nat) : Int) := by rw [Int.one_mul, Int.toNat_natCast, Int.natCast_pow]; rfl
theorem cpow1 {k : Nat} (h : k ≤ 1000) : CPow 1 (k : Int) := ⟨by omega, by omega, by decide⟩
theorem every_ok (hn : n ≤ 8) (hm : m ≤ 8) (hR : R ≤ 6) (hq : Q (.lst ((mts n m R).map mtD))) : S_every_meeting [.int n, .int m, .int R] Q := by
  refine ⟨rfl, ?_⟩
  show t_every_meeting _ [some (.sh (.int n)), some (.sh (.int m)), some (.sh (.int R)), none, none, none]
  simp only [t_every_meeting, ↓zHd0, zHp0, ↓zGd0, ↓zGd1, ↓zGd2, ↓zGd3, ↓zGd4, zGp0, startD, startC, ↓List.map_cons, ↓List.map_nil, ↓List.length_cons, ↓List.length_nil, Nat.reduceAdd, Nat.reduceSub, Nat.sub_self, List.replicate, ↓List.cons_append, ↓List.nil_append, List.append_nil, ↓List.getElem?_cons_zero, ↓List.getElem?_cons_succ, ↓List.set_cons_zero, ↓List.set_cons_succ, wipeD, Bool.not_true, Bool.not_false, decide_true, decide_false, beq_self_eq_true, true_and, and_true, Nat.reduceLeDiff, toDs, toDk, toDs_sh, ↓zS_ii, ↓zS_bi, ↓zS_ownO]
  refine ⟨⟨by omega, by omega⟩, ?_⟩
  rw [Int.toNat_natCast, ups_r]
  have hml := mts_len n m R
  have hb : R * (n * m) ≤ 6 * (8 * 8) := Nat.mul_le_mul hR (Nat.mul_le_mul hn hm)
  have e : (mts n m R).map mtD = (List.range R).flatMap fun r => (List.range n).flatMap fun i => (List.range m).map fun j => mtD (r, i, j) := by
    unfold mts
    rw [List.map_flatMap]
    congr 1
    funext r
    rw [List.map_flatMap]
    congr 1
    funext i
    rw [List.map_map]
    rfl
  refine lcG_of (α := Nat) (fun k => .int k) (fun r => (List.range n).flatMap fun i => (List.range m).map fun j => mtD (r, i, j)) (List.range R) [] ?_ (fun r hr K1 a1 ha1 hk1 => ?_) ?_
  · rw [← e, List.length_map, hml, List.length_nil, sizeLine_eq]
    omega
  · simp only [lvD, ↓zHd0, zHp0, ↓zGd0, ↓zGd1, ↓zGd2, ↓zGd3, ↓zGd4, zGp0, startD, startC, ↓List.map_cons, ↓List.map_nil, ↓List.length_cons, ↓List.length_nil, Nat.reduceAdd, Nat.reduceSub, Nat.sub_self, List.replicate, ↓List.cons_append, ↓List.nil_append, List.append_nil, ↓List.getElem?_cons_zero, ↓List.getElem?_cons_succ, ↓List.set_cons_zero, ↓List.set_cons_succ, wipeD, Bool.not_true, Bool.not_false, decide_true, decide_false, beq_self_eq_true, true_and, and_true, Nat.reduceLeDiff, toDs, toDk, toDs_sh, ↓zS_ii, ↓zS_bi, ↓zS_ownO]
    refine ⟨⟨by omega, by omega⟩, ?_⟩
    rw [Int.toNat_natCast, ups_r]
    refine lcG_of (α := Nat) (fun k => .int k) (fun i => (List.range m).map fun j => mtD (r, i, j)) (List.range n) a1 ha1 (fun i hi K2 a2 ha2 hk2 => ?_) hk1
    simp only [lvD, ↓zHd0, zHp0, ↓zGd0, ↓zGd1, ↓zGd2, ↓zGd3, ↓zGd4, zGp0, startD, startC, ↓List.map_cons, ↓List.map_nil, ↓List.length_cons, ↓List.length_nil, Nat.reduceAdd, Nat.reduceSub, Nat.sub_self, List.replicate, ↓List.cons_append, ↓List.nil_append, List.append_nil, ↓List.getElem?_cons_zero, ↓List.getElem?_cons_succ, ↓List.set_cons_zero, ↓List.set_cons_succ, wipeD, Bool.not_true, Bool.not_false, decide_true, decide_false, beq_self_eq_true, true_and, and_true, Nat.reduceLeDiff, toDs, toDk, toDs_sh, ↓zS_ii, ↓zS_bi, ↓zS_ownO]
    refine ⟨⟨by omega, by omega⟩, ?_⟩
    rw [Int.toNat_natCast, ups_r]
    refine lcG_of (α := Nat) (fun k => .int k) (fun j => [mtD (r, i, j)]) (List.range m) a2 ?_ (fun j hj K3 a3 ha3 hk3 => ?_) ?_
    · rw [List.length_map] at ha2
      rw [flat_len _ 1 _ fun _ _ => rfl, Nat.mul_one]
      exact ha2
    · simp only [apD, ↓zHd0, zHp0, ↓zGd0, ↓zGd1, ↓zGd2, ↓zGd3, ↓zGd4, zGp0, startD, startC, ↓List.map_cons, ↓List.map_nil, ↓List.length_cons, ↓List.length_nil, Nat.reduceAdd, Nat.reduceSub, Nat.sub_self, List.replicate, ↓List.cons_append, ↓List.nil_append, List.append_nil, ↓List.getElem?_cons_zero, ↓List.getElem?_cons_succ, ↓List.set_cons_zero, ↓List.set_cons_succ, wipeD, Bool.not_true, Bool.not_false, decide_true, decide_false, beq_self_eq_true, true_and, and_true, Nat.reduceLeDiff, toDs, toDk, toDs_sh, ↓zS_ii, ↓zS_bi, ↓zS_ownO]
      exact ⟨ha3, hk3⟩
    · have : ((List.range m).flatMap fun j => [mtD (r, i, j)]) = (List.range m).map fun j => mtD (r, i, j) := by
        rw [List.map_eq_flatMap]
      rw [this]
      exact hk2
  · rw [List.nil_append, ← e]
    exact hq
theorem lc_ofG {β : Type} {g1 : DG} {te : DE} {δ0 : DS} {Q : List D → Prop} (g h : β → D) (u : β → DS) : ∀ (xs : List β) (acc : List D), (∀ y ∈ xs, ∀ F : DS → Prop, F (u y) → g1 (g y) δ0 F) → (∀ y ∈ xs, ∀ R : D → Prop, R (h y) → te (u y) R) → Q (acc ++ xs.map h) → lcD g1 dYes te δ0 Q (xs.map g) acc
  | [], acc, _, _, q => by
    rw [List.map_nil, List.append_nil] at q
    exact q
  | y :: xs, acc, h1, h2, q => by
    show g1 (g y) δ0 fun δ' => dYes δ' fun b => if b = true then te δ' fun z => lcD g1 dYes te δ0 Q (xs.map g) (acc ++ [z]) else lcD g1 dYes te δ0 Q (xs.map g) acc
    refine h1 y List.mem_cons_self _ ?_
    show (if true = true then te (u y) fun z => lcD g1 dYes te δ0 Q (xs.map g) (acc ++ [z]) else lcD g1 dYes te δ0 Q (xs.map g) acc)
    rw [if_pos rfl]
    refine h2 y List.mem_cons_self _ (lc_ofG g h u xs _ (fun z hz => h1 z (List.mem_cons_of_mem _ hz)) (fun z hz => h2 z (List.mem_cons_of_mem _ hz)) ?_)
    rw [List.append_assoc]
    exact q
theorem many_ok (h : FsOk fs) (hl : fs.length ≤ 4) (hq : Q (.int (szF fs))) : S_many_characters [fsD fs] Q := by
  refine ⟨rfl, ?_⟩
  show t_many_characters _ [some (.sh (fsD fs)), none, none, none]
  simp only [t_many_characters, ↓zHd0, zHp0, ↓zGd0, ↓zGd1, ↓zGd2, ↓zGd3, ↓zGd4, zGp0, startD, startC, ↓List.map_cons, ↓List.map_nil, ↓List.length_cons, ↓List.length_nil, Nat.reduceAdd, Nat.reduceSub, Nat.sub_self, List.replicate, ↓List.cons_append, ↓List.nil_append, List.append_nil, ↓List.getElem?_cons_zero, ↓List.getElem?_cons_succ, ↓List.set_cons_zero, ↓List.set_cons_succ, wipeD, Bool.not_true, Bool.not_false, decide_true, decide_false, beq_self_eq_true, true_and, and_true, Nat.reduceLeDiff, toDs, toDk, toDs_sh, ↓zS_ii, ↓zS_bi, ↓zS_ownO]
  refine ⟨by rw [List.length_map, sizeLine_eq]; omega, ?_⟩
  refine lc_ofG (β := Fm) fmD (fun f => .int ((f.2.1 : Int) + f.2.2)) (fun f => [some (.sh (fsD fs)), some (.sh (.str (rdN f.1))), some (.sh (.int f.2.1)), some (.sh (.int f.2.2))]) fs [] (fun f hf F hF => ?_) (fun f hf R hR => ?_) ?_
  · simp only [fmD, ↓zHd0, zHp0, ↓zGd0, ↓zGd1, ↓zGd2, ↓zGd3, ↓zGd4, zGp0, startD, startC, ↓List.map_cons, ↓List.map_nil, ↓List.length_cons, ↓List.length_nil, Nat.reduceAdd, Nat.reduceSub, Nat.sub_self, List.replicate, ↓List.cons_append, ↓List.nil_append, List.append_nil, ↓List.getElem?_cons_zero, ↓List.getElem?_cons_succ, ↓List.set_cons_zero, ↓List.set_cons_succ, wipeD, Bool.not_true, Bool.not_false, decide_true, decide_false, beq_self_eq_true, true_and, and_true, Nat.reduceLeDiff, toDs, toDk, toDs_sh, ↓zS_ii, ↓zS_bi, ↓zS_ownO]
    exact hF
  · simp only [↓zHd0, zHp0, ↓zGd0, ↓zGd1, ↓zGd2, ↓zGd3, ↓zGd4, zGp0, startD, startC, ↓List.map_cons, ↓List.map_nil, ↓List.length_cons, ↓List.length_nil, Nat.reduceAdd, Nat.reduceSub, Nat.sub_self, List.replicate, ↓List.cons_append, ↓List.nil_append, List.append_nil, ↓List.getElem?_cons_zero, ↓List.getElem?_cons_succ, ↓List.set_cons_zero, ↓List.set_cons_succ, wipeD, Bool.not_true, Bool.not_false, decide_true, decide_false, beq_self_eq_true, true_and, and_true, Nat.reduceLeDiff, toDs, toDk, toDs_sh, ↓zS_ii, ↓zS_bi, ↓zS_ownO]
    exact hR
  · rw [List.nil_append]
    refine ⟨fs.map fun f => (f.2.1 : Int) + f.2.2, by rw [List.map_map]; rfl, ?_⟩
    have e : ∀ l : List Fm, (l.map fun f => (f.2.1 : Int) + f.2.2).sum = (szF l : Int) := fun l => by
      induction l with
      | nil => rfl
      | cons f l ih =>
        rw [List.map_cons, List.sum_cons, ih, szF]
        omega
    rw [e]
    exact hq
/-- the numbers that readers read, as a dict -/
abbrev nmD (n m : Nat) (x : Mt3) : List (D × D) := [(.str (Str.ofString "turns"), .int ((x.1 : Int) * m + x.2.2)), (.str (Str.ofString "others"), .int ((x.1 : Int) * n + x.2.1)), (.str (Str.ofString "rounds"), .int x.1), (.str (Str.ofString "suns"), .int x.2.1), (.str (Str.ofString "moons"), .int x.2.2)]
theorem nm_look (t : Nat) (h : t < 5) : lookD (nmD n m x) (.str (rdN t)) = some (.int (nmb n m x t : Nat)) := by
  rcases (by omega : t = 0 ∨ t = 1 ∨ t = 2 ∨ t = 3 ∨ t = 4) with rfl | rfl | rfl | rfl | rfl
  · show some (D.int ((x.1 : Int) * m + x.2.2)) = some (D.int ((x.1 * m + x.2.2 : Nat) : Int))
    rw [Int.natCast_add, Int.natCast_mul]
  · show some (D.int ((x.1 : Int) * n + x.2.1)) = some (D.int ((x.1 * n + x.2.1 : Nat) : Int))
    rw [Int.natCast_add, Int.natCast_mul]
  · rfl
  · rfl
  · rfl
theorem spot_int {f : Fm} (h : 0 < f.2.2) (y : Nat) : (if (y : Int) < f.2.1 then (y : Int) else (f.2.1 : Int) + ((y : Int) - f.2.1) % f.2.2) = (spotF f y : Nat) := by
  unfold spotF
  by_cases q : y < f.2.1
  · rw [if_pos q, if_pos (by omega)]
  · rw [if_neg q, if_neg (by omega), Int.natCast_add, Int.natCast_emod, Int.natCast_sub (by omega)]
theorem mask_1 : ∀ (fs : List Fm) (a acc : Nat) (o10 o11 o12 o13 : Option SD), FsOk fs → a + szF fs ≤ 900 →
    (∀ o9 o10 o11 o12 o13, W.nx [o0, o1, o2, o3, o4, o5, o6, some (.sh (.dic (nmD n m x))), some (.sh (.int (mk2 (pls n m x fs a) acc : Nat))), o9, o10, o11, o12, o13]) →
    forD (gT 3 (gsCons (gN 10) (gsCons (gN 11) (gsCons (gN 12) gsNil)))) b_mask_at_1 W (fs.map fmD) [o0, o1, o2, o3, o4, o5, o6, some (.sh (.dic (nmD n m x))), some (.sh (.int acc)), some (.sh (.int a)), o10, o11, o12, o13]
  | [], a, acc, o10, o11, o12, o13, _, _, hN => by
    rw [List.map_nil, forD_n]
    exact hN _ _ _ _ _
  | f :: fs, a, acc, o10, o11, o12, o13, hf, hz, hN => by
    have f5 := (hf f List.mem_cons_self).1
    have p0 := (hf f List.mem_cons_self).2
    have sl := spotF_lt p0 (nmb n m x f.1)
    rw [szF] at hz
    have ih := fun o10 o11 o12 o13 => mask_1 fs (a + f.2.1 + f.2.2) (acc ^^^ 2 ^ (a + spotF f (nmb n m x f.1))) o10 o11 o12 o13 (fun g hg => hf g (List.mem_cons_of_mem _ hg)) (by omega) hN
    rw [List.map_cons, forD_c]
    generalize forD (gT 3 (gsCons (gN 10) (gsCons (gN 11) (gsCons (gN 12) gsNil)))) b_mask_at_1 W (fs.map fmD) = G at ih ⊢
    simp only [fmD, b_mask_at_1, ↓zHd0, zHp0, ↓zGd0, ↓zGd1, ↓zGd2, ↓zGd3, ↓zGd4, zGp0, startD, startC, ↓List.map_cons, ↓List.map_nil, ↓List.length_cons, ↓List.length_nil, Nat.reduceAdd, Nat.reduceSub, Nat.sub_self, List.replicate, ↓List.cons_append, ↓List.nil_append, List.append_nil, ↓List.getElem?_cons_zero, ↓List.getElem?_cons_succ, ↓List.set_cons_zero, ↓List.set_cons_succ, wipeD, Bool.not_true, Bool.not_false, decide_true, decide_false, beq_self_eq_true, true_and, and_true, Nat.reduceLeDiff, toDs, toDk, toDs_sh, ↓zS_ii, ↓zS_bi, ↓zS_ownO]
    rw [nm_look _ f5]
    simp only [mask_at_at_6, ↓zHd0, zHp0, ↓zGd0, ↓zGd1, ↓zGd2, ↓zGd3, ↓zGd4, zGp0, startD, startC, ↓List.map_cons, ↓List.map_nil, ↓List.length_cons, ↓List.length_nil, Nat.reduceAdd, Nat.reduceSub, Nat.sub_self, List.replicate, ↓List.cons_append, ↓List.nil_append, List.append_nil, ↓List.getElem?_cons_zero, ↓List.getElem?_cons_succ, ↓List.set_cons_zero, ↓List.set_cons_succ, wipeD, Bool.not_true, Bool.not_false, decide_true, decide_false, beq_self_eq_true, true_and, and_true, Nat.reduceLeDiff, toDs, toDk, toDs_sh, ↓zS_ii, ↓zS_bi, ↓zS_ownO]
    have fin : CPow 1 ((a : Int) + (spotF f (nmb n m x f.1) : Nat)) ∧ mask_at_at_7 { nx := G, rt := W.rt, bk := W.bk, ct := W.ct, ro := W.ro } [o0, o1, o2, o3, o4, o5, o6, some (.sh (.dic (nmD n m x))), some (.sh (.int (Builtin.bitXor acc (1 * 2 ^ ((a : Int) + (spotF f (nmb n m x f.1) : Nat)).toNat)))), some (.sh (.int a)), some (.sh (.str (rdN f.1))), some (.sh (.int f.2.1)), some (.sh (.int f.2.2)), some (.sh (.int (nmb n m x f.1 : Nat)))] := by
      have e : (a : Int) + (spotF f (nmb n m x f.1) : Nat) = ((a + spotF f (nmb n m x f.1) : Nat) : Int) := by omega
      rw [e, shl_nat, bxor_nat]
      refine ⟨cpow1 (by omega), ?_⟩
      simp only [mask_at_at_7, ↓zHd0, zHp0, ↓zGd0, ↓zGd1, ↓zGd2, ↓zGd3, ↓zGd4, zGp0, startD, startC, ↓List.map_cons, ↓List.map_nil, ↓List.length_cons, ↓List.length_nil, Nat.reduceAdd, Nat.reduceSub, Nat.sub_self, List.replicate, ↓List.cons_append, ↓List.nil_append, List.append_nil, ↓List.getElem?_cons_zero, ↓List.getElem?_cons_succ, ↓List.set_cons_zero, ↓List.set_cons_succ, wipeD, Bool.not_true, Bool.not_false, decide_true, decide_false, beq_self_eq_true, true_and, and_true, Nat.reduceLeDiff, toDs, toDk, toDs_sh, ↓zS_ii, ↓zS_bi, ↓zS_ownO]
      have e2 : (a : Int) + ((f.2.1 : Int) + f.2.2) = ((a + f.2.1 + f.2.2 : Nat) : Int) := by omega
      rw [e2]
      exact ih _ _ _ _
    have si := spot_int p0 (nmb n m x f.1)
    by_cases q : (nmb n m x f.1 : Int) < f.2.1
    · rw [decide_eq_true q]
      rw [if_pos q] at si
      simp only [↓zHd0, zHp0, ↓zGd0, ↓zGd1, ↓zGd2, ↓zGd3, ↓zGd4, zGp0, startD, startC, ↓List.map_cons, ↓List.map_nil, ↓List.length_cons, ↓List.length_nil, Nat.reduceAdd, Nat.reduceSub, Nat.sub_self, List.replicate, ↓List.cons_append, ↓List.nil_append, List.append_nil, ↓List.getElem?_cons_zero, ↓List.getElem?_cons_succ, ↓List.set_cons_zero, ↓List.set_cons_succ, wipeD, Bool.not_true, Bool.not_false, decide_true, decide_false, beq_self_eq_true, true_and, and_true, Nat.reduceLeDiff, toDs, toDk, toDs_sh, ↓zS_ii, ↓zS_bi, ↓zS_ownO]
      rw [← si] at fin
      exact fin
    · rw [decide_eq_false q]
      rw [if_neg q] at si
      simp only [↓zHd0, zHp0, ↓zGd0, ↓zGd1, ↓zGd2, ↓zGd3, ↓zGd4, zGp0, startD, startC, ↓List.map_cons, ↓List.map_nil, ↓List.length_cons, ↓List.length_nil, Nat.reduceAdd, Nat.reduceSub, Nat.sub_self, List.replicate, ↓List.cons_append, ↓List.nil_append, List.append_nil, ↓List.getElem?_cons_zero, ↓List.getElem?_cons_succ, ↓List.set_cons_zero, ↓List.set_cons_succ, wipeD, Bool.not_true, Bool.not_false, decide_true, decide_false, beq_self_eq_true, true_and, and_true, Nat.reduceLeDiff, toDs, toDk, toDs_sh, ↓zS_ii, ↓zS_bi, ↓zS_ownO]
      rw [← si] at fin
      exact ⟨by omega, fin⟩
theorem mask_ok (h : FsOk fs) (hz : szF fs ≤ 40) (hn : n ≤ 8) (hm : m ≤ 8) (hx : x.1 < 6 ∧ x.2.1 < n ∧ x.2.2 < m) (hq : Q (.int (mk2 (pls n m x fs 0) 0 : Nat))) : S_mask_at [fsD fs, mtD x, .int n, .int m] Q := by
  refine ⟨rfl, ?_⟩
  show t_mask_at _ [some (.sh (fsD fs)), some (.sh (mtD x)), some (.sh (.int n)), some (.sh (.int m)), none, none, none, none, none, none, none, none, none, none]
  simp only [t_mask_at, mtD, ↓zHd0, zHp0, ↓zGd0, ↓zGd1, ↓zGd2, ↓zGd3, ↓zGd4, zGp0, startD, startC, ↓List.map_cons, ↓List.map_nil, ↓List.length_cons, ↓List.length_nil, Nat.reduceAdd, Nat.reduceSub, Nat.sub_self, List.replicate, ↓List.cons_append, ↓List.nil_append, List.append_nil, ↓List.getElem?_cons_zero, ↓List.getElem?_cons_succ, ↓List.set_cons_zero, ↓List.set_cons_succ, wipeD, Bool.not_true, Bool.not_false, decide_true, decide_false, beq_self_eq_true, true_and, and_true, Nat.reduceLeDiff, toDs, toDk, toDs_sh, ↓zS_ii, ↓zS_bi, ↓zS_ownO]
  simp only [mask_at_at_2, ↓zHd0, zHp0, ↓zGd0, ↓zGd1, ↓zGd2, ↓zGd3, ↓zGd4, zGp0, startD, startC, ↓List.map_cons, ↓List.map_nil, ↓List.length_cons, ↓List.length_nil, Nat.reduceAdd, Nat.reduceSub, Nat.sub_self, List.replicate, ↓List.cons_append, ↓List.nil_append, List.append_nil, ↓List.getElem?_cons_zero, ↓List.getElem?_cons_succ, ↓List.set_cons_zero, ↓List.set_cons_succ, wipeD, Bool.not_true, Bool.not_false, decide_true, decide_false, beq_self_eq_true, true_and, and_true, Nat.reduceLeDiff, toDs, toDk, toDs_sh, ↓zS_ii, ↓zS_bi, ↓zS_ownO]
  have b1 : x.1 * m ≤ 6 * 8 := Nat.mul_le_mul (by omega) hm
  have b2 : x.1 * n ≤ 6 * 8 := Nat.mul_le_mul (by omega) hn
  refine ⟨.inl (.inl ⟨by omega, by omega⟩), ?_⟩
  refine ⟨.inl (.inl ⟨by omega, by omega⟩), ?_⟩
  simp only [mask_at_at_3, ↓zHd0, zHp0, ↓zGd0, ↓zGd1, ↓zGd2, ↓zGd3, ↓zGd4, zGp0, startD, startC, ↓List.map_cons, ↓List.map_nil, ↓List.length_cons, ↓List.length_nil, Nat.reduceAdd, Nat.reduceSub, Nat.sub_self, List.replicate, ↓List.cons_append, ↓List.nil_append, List.append_nil, ↓List.getElem?_cons_zero, ↓List.getElem?_cons_succ, ↓List.set_cons_zero, ↓List.set_cons_succ, wipeD, Bool.not_true, Bool.not_false, decide_true, decide_false, beq_self_eq_true, true_and, and_true, Nat.reduceLeDiff, toDs, toDk, toDs_sh, ↓zS_ii, ↓zS_bi, ↓zS_ownO]
  simp only [mask_at_at_4, ↓zHd0, zHp0, ↓zGd0, ↓zGd1, ↓zGd2, ↓zGd3, ↓zGd4, zGp0, startD, startC, ↓List.map_cons, ↓List.map_nil, ↓List.length_cons, ↓List.length_nil, Nat.reduceAdd, Nat.reduceSub, Nat.sub_self, List.replicate, ↓List.cons_append, ↓List.nil_append, List.append_nil, ↓List.getElem?_cons_zero, ↓List.getElem?_cons_succ, ↓List.set_cons_zero, ↓List.set_cons_succ, wipeD, Bool.not_true, Bool.not_false, decide_true, decide_false, beq_self_eq_true, true_and, and_true, Nat.reduceLeDiff, toDs, toDk, toDs_sh, ↓zS_ii, ↓zS_bi, ↓zS_ownO]
  refine mask_1 fs 0 0 _ _ _ _ h (by omega) fun o9 o10 o11 o12 o13 => ?_
  simp only [mask_at_at_8, ↓zHd0, zHp0, ↓zGd0, ↓zGd1, ↓zGd2, ↓zGd3, ↓zGd4, zGp0, startD, startC, ↓List.map_cons, ↓List.map_nil, ↓List.length_cons, ↓List.length_nil, Nat.reduceAdd, Nat.reduceSub, Nat.sub_self, List.replicate, ↓List.cons_append, ↓List.nil_append, List.append_nil, ↓List.getElem?_cons_zero, ↓List.getElem?_cons_succ, ↓List.set_cons_zero, ↓List.set_cons_succ, wipeD, Bool.not_true, Bool.not_false, decide_true, decide_false, beq_self_eq_true, true_and, and_true, Nat.reduceLeDiff, toDs, toDk, toDs_sh, ↓zS_ii, ↓zS_bi, ↓zS_ownO]
  exact hq
end
section
variable {n m R C p mask : Nat} {fs : List Fm} {x : Mt3} {Q : D → Prop} {W : DEnds} {v : V} {f : Nat → Nat} {E : List D} {o0 o1 o2 o3 o4 o5 o6 o7 o8 o9 o10 o11 o12 o13 : Option SD}
abbrev lN (l : List Nat) : OD := .lst (l.map fun k : Nat => .sh (.int k))
theorem toDs_n : ∀ l : List Nat, toDs (l.map fun k : Nat => OD.sh (.int k)) = l.map fun k : Nat => D.int k
  | [] => rfl
  | k :: l => by
    rw [List.map_cons, List.map_cons, ← toDs_n l]
    rfl
end
section
variable {n m R : Nat} {fs : List Fm} {Q : D → Prop} {W : DEnds} {l rows : List Nat} {o0 o1 o2 o3 o4 o5 o6 o7 o8 o9 o10 : Option SD}
abbrev nL (l : List Nat) : D := .lst (l.map fun k : Nat => .int k)
theorem bits_nat {a : Nat} (h : 0 < a) : ((Builtin.Int.intBits (a : Int) : Nat) : Int) - 1 = (a.log2 : Nat) := by
  unfold Builtin.Int.intBits
  rw [if_neg (by rw [beq_iff_eq]; omega)]
  show ((a.log2 + 1 : Nat) : Int) - 1 = _
  omega
theorem log_lt {a k : Nat} (h : a < 2 ^ k) (hk : k < 1900) : a.log2 < 1920 := by
  by_cases z : a = 0
  · rw [z]; decide
  · have := (Nat.log2_lt z).mpr h
    omega
theorem pss_len : (pss n m R fs).length = R * (n * m) := by unfold pss; rw [List.length_map, mts_len]
end
section
variable {n m R : Nat} {fs : List Fm}
/-- signs of a text, each so many places behind the one ahead -/
def colT (sz R p : Nat) (l : List Bool) : List Bool := (List.range R).map fun r => l.getD (r * sz + p) false
theorem filt_some {α β : Type} {f : α → Option β} {g : α → β} : ∀ {l : List α}, (∀ a ∈ l, f a = some (g a)) → l.filterMap f = l.map g
  | [], _ => rfl
  | a :: l, h => by rw [List.filterMap_cons_some (h a List.mem_cons_self), filt_some fun b hb => h b (List.mem_cons_of_mem _ hb), List.map_cons]
theorem colT_len (sz R p : Nat) (l : List Bool) : (colT sz R p l).length = R := by unfold colT; rw [List.length_map, List.length_range]
theorem getD_code {l : List Bool} {k : Nat} (h : k < l.length) : (l.map cB)[k]? = some (cB (l.getD k false)) := by
  rw [List.getElem?_map, List.getD_eq_getElem?_getD, List.getElem?_eq_getElem h]
  rfl
theorem ix_bd {sz R p r : Nat} (hp : p < sz) (hr : r < R) : r * sz + p < R * sz := by
  have : (r + 1) * sz ≤ R * sz := Nat.mul_le_mul_right _ hr
  rw [Nat.add_mul, Nat.one_mul] at this
  omega
theorem sl3_col {sz R p : Nat} {l : List Bool} (hl : l.length = R * sz) (hp : p < sz) (hR : 0 < R) : sl3 (bT l) (some (p : Int)) none (sz : Int) = bT (colT sz R p l) := by
  have hlen : (bT l).length = R * sz := by rw [bT_len, hl]
  have pl : p < R * sz := Nat.lt_of_lt_of_le hp (Nat.le_mul_of_pos_left _ hR)
  have ix : Builtin.Str.strSliceIndices (some (p : Int)) none (sz : Int) (bT l).length = (List.range R).map fun r => r * sz + p := by
    unfold Builtin.Str.strSliceIndices
    rw [hlen]
    dsimp only
    rw [if_pos (by omega), if_neg (by omega), if_pos (by omega)]
    have e1 : max (0 : Int) (min (p : Int) ((R * sz : Nat) : Int)) = p := by omega
    rw [e1]
    unfold sliceRange
    rw [if_pos (by omega), if_pos (by omega)]
    have e2 : (((R * sz : Nat) : Int) - p + sz - 1) / (sz : Int) = R := by
      have : ((R * sz : Nat) : Int) - p + sz - 1 = ((sz : Int) - 1 - p) + (sz : Int) * R := by
        rw [Int.natCast_mul, Int.mul_comm (R : Int)]
        omega
      rw [this, Int.add_mul_ediv_left _ _ (by omega), Int.ediv_eq_zero_of_lt (by omega) (by omega), Int.zero_add]
    rw [e2]
    show (List.range (R : Int).toNat).map _ = _
    rw [Int.toNat_natCast]
    refine List.map_congr_left fun r _ => ?_
    rw [show (p : Int) + (sz : Int) * (r : Int) = ((r * sz + p : Nat) : Int) by rw [Int.natCast_add, Int.natCast_mul, Int.mul_comm]; omega, Int.toNat_natCast]
  have codes : (((List.range R).map fun r => r * sz + p).filterMap fun k => (bT l).cps[k]?) = (colT sz R p l).map cB := by
    unfold colT
    rw [List.filterMap_map, List.map_map]
    refine filt_some fun r hr => ?_
    show (bT l).cps[r * sz + p]? = _
    rw [← Array.getElem?_toList, bT_codes, getD_code (by rw [hl]; exact ix_bd hp (List.mem_range.mp hr))]
    rfl
  unfold sl3
  rw [ix]
  split
  · rename_i h
    rw [Bool.and_eq_true, beq_iff_eq] at h
    have s1 : sz = 1 := by omega
    subst s1
    have p0 : p = 0 := by omega
    subst p0
    have e : colT 1 R 0 l = l := getD_ext (by rw [colT_len, hl, Nat.mul_one]) fun k hk => by
      rw [colT_len] at hk
      unfold colT
      rw [List.getD_eq_getElem?_getD, List.getElem?_map, List.getElem?_range hk]
      show l.getD (k * 1 + 0) false = _
      rw [Nat.mul_one, Nat.add_zero]
    rw [e]
  · apply str_ext
    show (List.filterMap _ _).toArray.toList = _
    rw [bT_codes, ← codes]
end
section
variable {n m R : Nat} {fs : List Fm} {Q : D → Prop} {QO : OD → Prop} {W : DEnds} {l rows : List Nat} {o0 o1 o2 o3 o4 o5 o6 o7 o8 o9 o10 : Option SD}
theorem join_bits {bs : List Bool} (hz : bs.length ≤ 1000) (hq : Q (.str (bT bs))) : mJoin (.str (Str.ofString "")) [.lst (bs.map fun b => .str (bT [b]))] Q := by
  have e : (bs.map fun b => D.str (bT [b])) = (bs.map cB).map sg := by
    rw [List.map_map]
    rfl
  rw [e]
  show (match strsOf _ with | some ys => _ | none => False)
  rw [strs_signs]
  refine ⟨join_sz (by rw [List.length_map]; omega), ?_⟩
  rw [join_signs]
  exact hq
def key2 (x : Nat × Nat) : D := .tup [.int x.1, .int x.2]
theorem key2_emb (x : Nat × Nat) : key2 x = embT [.inl x.1, .inl x.2] := rfl
theorem key2_eq (x y : Nat × Nat) : keqD (key2 x) (key2 y) = decide (x = y) := by
  rw [key2_emb, key2_emb, keqD_T]
  rw [decide_eq_decide]
  constructor
  · intro h
    simp only [List.cons.injEq, Sum.inl.injEq, and_true] at h
    exact Prod.ext (by omega) (by omega)
  · intro h
    subst h
    rfl
def prs (n m : Nat) : List (Nat × Nat) := (List.range n).flatMap fun i => (List.range m).map fun j => (i, j)
theorem mem_prs {x : Nat × Nat} : x ∈ prs n m ↔ x.1 < n ∧ x.2 < m := by
  unfold prs
  rw [List.mem_flatMap]
  constructor
  · rintro ⟨i, hi, h⟩
    obtain ⟨j, hj, rfl⟩ := List.mem_map.mp h
    exact ⟨List.mem_range.mp hi, List.mem_range.mp hj⟩
  · rintro ⟨h1, h2⟩
    exact ⟨x.1, List.mem_range.mpr h1, List.mem_map.mpr ⟨x.2, List.mem_range.mpr h2, rfl⟩⟩
theorem prs_len : (prs n m).length = n * m := by
  unfold prs
  rw [flat_len _ m _ fun i _ => by rw [List.length_map, List.length_range], List.length_range]
/-- the crossings of a cloth -/
def crsD (n m R : Nat) (l : List Bool) (xs : List (Nat × Nat)) : List (D × D) := xs.map fun x => (key2 x, .str (bT (colT (n * m) R (x.1 * m + x.2) l)))
theorem prs_at : ∀ {k : Nat} {x : Nat × Nat}, (prs n m)[k]? = some x → k = x.1 * m + x.2 ∧ x.1 < n ∧ x.2 < m := by
  intro k x h
  have hx := mem_prs.mp (List.mem_of_getElem? h)
  refine ⟨?_, hx⟩
  have key : ∀ (n s k : Nat), ((List.range' s n).flatMap fun i => (List.range m).map fun j => (i, j))[k]? = some x → k + s * m = x.1 * m + x.2 := by
    intro n
    induction n with
    | zero => intro s k h; cases h
    | succ n ih =>
      intro s k h
      rw [List.range'_succ, List.flatMap_cons] at h
      by_cases q : k < m
      · rw [List.getElem?_append_left (by rw [List.length_map, List.length_range]; exact q), List.getElem?_map, List.getElem?_range q] at h
        cases h
        dsimp only
        omega
      · rw [List.getElem?_append_right (by rw [List.length_map, List.length_range]; omega), List.length_map, List.length_range] at h
        have := ih (s + 1) _ h
        rw [Nat.add_mul, Nat.one_mul] at this
        omega
  have := key n 0 k (by rw [← List.range_eq_range']; exact h)
  omega
theorem prs_nd : (prs n m).Nodup := by
  refine List.pairwise_iff_getElem.mpr fun i j hi hj hij e => ?_
  have h1 := prs_at (List.getElem?_eq_getElem hi)
  have h2 := prs_at (List.getElem?_eq_getElem hj)
  rw [← e] at h2
  omega
theorem flat_ix {β : Type} (c : Nat) (g : Nat → List β) (hg : ∀ r, (g r).length = c) : ∀ (n s k : Nat) (x : β), ((List.range' s n).flatMap g)[k]? = some x → ∃ r i, (s ≤ r ∧ r < s + n) ∧ (g r)[i]? = some x ∧ i < c ∧ k + s * c = r * c + i
  | 0, s, k, x, h => by cases h
  | n + 1, s, k, x, h => by
    rw [List.range'_succ, List.flatMap_cons] at h
    by_cases q : k < c
    · rw [List.getElem?_append_left (by rw [hg]; exact q)] at h
      exact ⟨s, k, ⟨Nat.le_refl _, by omega⟩, h, q, by omega⟩
    · rw [List.getElem?_append_right (by rw [hg]; omega), hg] at h
      obtain ⟨r, i, h1, h2, h3, h4⟩ := flat_ix c g hg n (s + 1) _ x h
      refine ⟨r, i, ⟨by omega, by omega⟩, h2, h3, ?_⟩
      rw [Nat.add_mul, Nat.one_mul] at h4
      omega
theorem mts_prs : mts n m R = (List.range R).flatMap fun r => (prs n m).map fun p => (r, p.1, p.2) := by
  unfold mts prs
  congr 1
  funext r
  rw [List.map_flatMap]
  congr 1
  funext i
  rw [List.map_map]
  rfl
theorem mts_at {k : Nat} {x : Mt3} (h : (mts n m R)[k]? = some x) : k = x.1 * (n * m) + (x.2.1 * m + x.2.2) ∧ x.1 < R ∧ x.2.1 < n ∧ x.2.2 < m := by
  have hx := mem_mts.mp (List.mem_of_getElem? h)
  refine ⟨?_, hx⟩
  rw [mts_prs, List.range_eq_range'] at h
  obtain ⟨r, i, h1, h2, h3, h4⟩ := flat_ix (n * m) (fun r => (prs n m).map fun p => (r, p.1, p.2)) (fun r => by rw [List.length_map, prs_len]) R 0 k x h
  rw [List.getElem?_map] at h2
  obtain ⟨p, e1, e2⟩ := Option.map_eq_some_iff.mp h2
  have := prs_at e1
  subst e2
  dsimp only
  omega
/-- the keys of a cloth, in any order -/
theorem look_crs {R : Nat} {l : List Bool} {y : Nat × Nat} : ∀ {xs : List (Nat × Nat)}, y ∈ xs → lookK (crsD n m R l xs) (key2 y) = some (.str (bT (colT (n * m) R (y.1 * m + y.2) l)))
  | [], h => nomatch h
  | x :: xs, h => by
    show lookK ((key2 x, _) :: crsD n m R l xs) (key2 y) = _
    rw [lookK_cons, key2_eq]
    by_cases e : x = y
    · subst e
      rw [decide_eq_true rfl, if_pos rfl]
    · rw [decide_eq_false e, if_neg (by decide)]
      exact look_crs ((List.mem_cons.mp h).resolve_left (Ne.symm e))
theorem nums_ok {l : List Bool} {xs : List (Nat × Nat)} (n0 : 0 < n) (m0 : 0 < m) (hn : n ≤ 8) (hm : m ≤ 8) (hR : R ≤ 6) (hp : xs.Perm (prs n m)) (hq : Q (.tup [.int n, .int m, .int R])) : S_numbers_of [.dic (crsD n m R l xs)] Q := by
  refine ⟨rfl, ?_⟩
  show t_numbers_of _ [some (.sh (.dic (crsD n m R l xs))), none, none]
  simp only [t_numbers_of, ↓zHd0, zHp0, ↓zGd0, ↓zGd1, ↓zGd2, ↓zGd3, ↓zGd4, zGp0, startD, startC, ↓List.map_cons, ↓List.map_nil, ↓List.length_cons, ↓List.length_nil, Nat.reduceAdd, Nat.reduceSub, Nat.sub_self, List.replicate, ↓List.cons_append, ↓List.nil_append, List.append_nil, ↓List.getElem?_cons_zero, ↓List.getElem?_cons_succ, ↓List.set_cons_zero, ↓List.set_cons_succ, wipeD, Bool.not_true, Bool.not_false, decide_true, decide_false, beq_self_eq_true, true_and, and_true, Nat.reduceLeDiff, toDs, toDk, toDs_sh, ↓zS_ii, ↓zS_bi, ↓zS_ownO]
  have hb : n * m ≤ 8 * 8 := Nat.mul_le_mul hn hm
  have len : xs.length = n * m := by rw [hp.length_eq, prs_len]
  have pos : 0 < n * m := Nat.mul_pos n0 m0
  have ks : (crsD n m R l xs).map (fun x => x.1) = xs.map key2 := by
    unfold crsD
    rw [List.map_map]
    rfl
  have mx : ∀ (f : Nat × Nat → Nat) (k : Nat), (∀ x ∈ xs, f x < k) → (∃ x ∈ xs, f x + 1 = k) → ∀ (K : D → Prop), K (.int ((k : Int) - 1)) → cMaxL [.lst (xs.map fun x => .int (f x : Nat))] K := fun f k h1 h2 K hK => by
    refine ⟨xs.map fun x => ((f x : Nat) : Int), by rw [List.map_map]; rfl, by rw [List.length_map, len]; exact pos, fun y hy hmax => ?_⟩
    obtain ⟨x, hx, rfl⟩ := List.mem_map.mp hy
    obtain ⟨z, hz, ez⟩ := h2
    have a1 := h1 x hx
    have a2 := hmax _ (List.mem_map.mpr ⟨z, hz, rfl⟩)
    rw [show ((f x : Nat) : Int) = (k : Int) - 1 by omega]
    exact hK
  rw [ks]
  refine ⟨by rw [List.length_map, len, sizeLine_eq]; omega, ?_⟩
  refine lc_ofG (β := Nat × Nat) key2 (fun x => .int (x.1 : Nat)) (fun x => [some (.sh (.dic (crsD n m R l xs))), some (.sh (.int x.1)), some (.sh (.int x.2))]) xs [] (fun x hx F hF => ?_) (fun x hx R2 hR2 => ?_) ?_
  · unfold key2
    simp only [↓zHd0, zHp0, ↓zGd0, ↓zGd1, ↓zGd2, ↓zGd3, ↓zGd4, zGp0, startD, startC, ↓List.map_cons, ↓List.map_nil, ↓List.length_cons, ↓List.length_nil, Nat.reduceAdd, Nat.reduceSub, Nat.sub_self, List.replicate, ↓List.cons_append, ↓List.nil_append, List.append_nil, ↓List.getElem?_cons_zero, ↓List.getElem?_cons_succ, ↓List.set_cons_zero, ↓List.set_cons_succ, wipeD, Bool.not_true, Bool.not_false, decide_true, decide_false, beq_self_eq_true, true_and, and_true, Nat.reduceLeDiff, toDs, toDk, toDs_sh, ↓zS_ii, ↓zS_bi, ↓zS_ownO]
    exact hF
  · simp only [↓zHd0, zHp0, ↓zGd0, ↓zGd1, ↓zGd2, ↓zGd3, ↓zGd4, zGp0, startD, startC, ↓List.map_cons, ↓List.map_nil, ↓List.length_cons, ↓List.length_nil, Nat.reduceAdd, Nat.reduceSub, Nat.sub_self, List.replicate, ↓List.cons_append, ↓List.nil_append, List.append_nil, ↓List.getElem?_cons_zero, ↓List.getElem?_cons_succ, ↓List.set_cons_zero, ↓List.set_cons_succ, wipeD, Bool.not_true, Bool.not_false, decide_true, decide_false, beq_self_eq_true, true_and, and_true, Nat.reduceLeDiff, toDs, toDk, toDs_sh, ↓zS_ii, ↓zS_bi, ↓zS_ownO]
    exact hR2
  · rw [List.nil_append]
    refine mx (fun x => x.1) n (fun x hx => (mem_prs.mp (hp.mem_iff.mp hx)).1) ⟨(n - 1, 0), hp.mem_iff.mpr (mem_prs.mpr ⟨by show n - 1 < n; omega, m0⟩), by show n - 1 + 1 = n; omega⟩ _ ?_
    simp only [↓zHd0, zHp0, ↓zGd0, ↓zGd1, ↓zGd2, ↓zGd3, ↓zGd4, zGp0, startD, startC, ↓List.map_cons, ↓List.map_nil, ↓List.length_cons, ↓List.length_nil, Nat.reduceAdd, Nat.reduceSub, Nat.sub_self, List.replicate, ↓List.cons_append, ↓List.nil_append, List.append_nil, ↓List.getElem?_cons_zero, ↓List.getElem?_cons_succ, ↓List.set_cons_zero, ↓List.set_cons_succ, wipeD, Bool.not_true, Bool.not_false, decide_true, decide_false, beq_self_eq_true, true_and, and_true, Nat.reduceLeDiff, toDs, toDk, toDs_sh, ↓zS_ii, ↓zS_bi, ↓zS_ownO]
    refine ⟨by rw [List.length_map, len, sizeLine_eq]; omega, ?_⟩
    refine lc_ofG (β := Nat × Nat) key2 (fun x => .int (x.2 : Nat)) (fun x => [some (.sh (.dic (crsD n m R l xs))), some (.sh (.int x.1)), some (.sh (.int x.2))]) xs [] (fun x hx F hF => ?_) (fun x hx R2 hR2 => ?_) ?_
    · unfold key2
      simp only [↓zHd0, zHp0, ↓zGd0, ↓zGd1, ↓zGd2, ↓zGd3, ↓zGd4, zGp0, startD, startC, ↓List.map_cons, ↓List.map_nil, ↓List.length_cons, ↓List.length_nil, Nat.reduceAdd, Nat.reduceSub, Nat.sub_self, List.replicate, ↓List.cons_append, ↓List.nil_append, List.append_nil, ↓List.getElem?_cons_zero, ↓List.getElem?_cons_succ, ↓List.set_cons_zero, ↓List.set_cons_succ, wipeD, Bool.not_true, Bool.not_false, decide_true, decide_false, beq_self_eq_true, true_and, and_true, Nat.reduceLeDiff, toDs, toDk, toDs_sh, ↓zS_ii, ↓zS_bi, ↓zS_ownO]
      exact hF
    · simp only [↓zHd0, zHp0, ↓zGd0, ↓zGd1, ↓zGd2, ↓zGd3, ↓zGd4, zGp0, startD, startC, ↓List.map_cons, ↓List.map_nil, ↓List.length_cons, ↓List.length_nil, Nat.reduceAdd, Nat.reduceSub, Nat.sub_self, List.replicate, ↓List.cons_append, ↓List.nil_append, List.append_nil, ↓List.getElem?_cons_zero, ↓List.getElem?_cons_succ, ↓List.set_cons_zero, ↓List.set_cons_succ, wipeD, Bool.not_true, Bool.not_false, decide_true, decide_false, beq_self_eq_true, true_and, and_true, Nat.reduceLeDiff, toDs, toDk, toDs_sh, ↓zS_ii, ↓zS_bi, ↓zS_ownO]
      exact hR2
    · rw [List.nil_append]
      refine mx (fun x => x.2) m (fun x hx => (mem_prs.mp (hp.mem_iff.mp hx)).2) ⟨(0, m - 1), hp.mem_iff.mpr (mem_prs.mpr ⟨n0, by show m - 1 < m; omega⟩), by show m - 1 + 1 = m; omega⟩ _ ?_
      simp only [↓zHd0, zHp0, ↓zGd0, ↓zGd1, ↓zGd2, ↓zGd3, ↓zGd4, zGp0, startD, startC, ↓List.map_cons, ↓List.map_nil, ↓List.length_cons, ↓List.length_nil, Nat.reduceAdd, Nat.reduceSub, Nat.sub_self, List.replicate, ↓List.cons_append, ↓List.nil_append, List.append_nil, ↓List.getElem?_cons_zero, ↓List.getElem?_cons_succ, ↓List.set_cons_zero, ↓List.set_cons_succ, wipeD, Bool.not_true, Bool.not_false, decide_true, decide_false, beq_self_eq_true, true_and, and_true, Nat.reduceLeDiff, toDs, toDk, toDs_sh, ↓zS_ii, ↓zS_bi, ↓zS_ownO]
      rw [show D.tup [.int 0, .int 0] = key2 (0, 0) from rfl, z_gtK (look_crs (hp.mem_iff.mpr (mem_prs.mpr ⟨n0, m0⟩)))]
      simp only [↓zHd0, zHp0, ↓zGd0, ↓zGd1, ↓zGd2, ↓zGd3, ↓zGd4, zGp0, startD, startC, ↓List.map_cons, ↓List.map_nil, ↓List.length_cons, ↓List.length_nil, Nat.reduceAdd, Nat.reduceSub, Nat.sub_self, List.replicate, ↓List.cons_append, ↓List.nil_append, List.append_nil, ↓List.getElem?_cons_zero, ↓List.getElem?_cons_succ, ↓List.set_cons_zero, ↓List.set_cons_succ, wipeD, Bool.not_true, Bool.not_false, decide_true, decide_false, beq_self_eq_true, true_and, and_true, Nat.reduceLeDiff, toDs, toDk, toDs_sh, ↓zS_ii, ↓zS_bi, ↓zS_ownO]
      rw [bT_len, colT_len, show (1 : Int) + ((n : Int) - 1) = n by omega, show (1 : Int) + ((m : Int) - 1) = m by omega]
      exact ⟨by rw [sizeLine_eq]; omega, hq⟩
end
section
variable {n m R : Nat} {fs : List Fm} {x : Mt3} {Q : D → Prop} {QO : OD → Prop} {W : DEnds} {v : V} {o0 o1 o2 o3 o4 o5 o6 o7 o8 o9 o10 o11 o12 o13 : Option SD}
theorem mixd_1 {l : List D} {b : D} (hl : l.length ≤ 900) (hN : ∀ l' : List D, l'.Perm (l ++ [b]) → W.nx [some (.sh .bag), o1, some (.ow v (.lst (l'.map .sh))), some (.sh b)]) :
    b__law_mixed_1 W [some (.sh .bag), o1, some (.ow v (.lst (l.map .sh))), some (.sh b)] := by
  simp only [b__law_mixed_1, ↓zHd0, zHp0, ↓zGd0, ↓zGd1, ↓zGd2, ↓zGd3, ↓zGd4, zGp0, startD, startC, ↓List.map_cons, ↓List.map_nil, ↓List.length_cons, ↓List.length_nil, Nat.reduceAdd, Nat.reduceSub, Nat.sub_self, List.replicate, ↓List.cons_append, ↓List.nil_append, List.append_nil, ↓List.getElem?_cons_zero, ↓List.getElem?_cons_succ, ↓List.set_cons_zero, ↓List.set_cons_succ, wipeD, Bool.not_true, Bool.not_false, decide_true, decide_false, beq_self_eq_true, true_and, and_true, Nat.reduceLeDiff, toDs, toDk, toDs_sh, ↓zS_ii, ↓zS_bi, ↓zS_ownO]
  refine take_of (by omega) (by omega) fun i i0 i1 => ?_
  simp only [↓zHd0, zHp0, ↓zGd0, ↓zGd1, ↓zGd2, ↓zGd3, ↓zGd4, zGp0, startD, startC, ↓List.map_cons, ↓List.map_nil, ↓List.length_cons, ↓List.length_nil, Nat.reduceAdd, Nat.reduceSub, Nat.sub_self, List.replicate, ↓List.cons_append, ↓List.nil_append, List.append_nil, ↓List.getElem?_cons_zero, ↓List.getElem?_cons_succ, ↓List.set_cons_zero, ↓List.set_cons_succ, wipeD, Bool.not_true, Bool.not_false, decide_true, decide_false, beq_self_eq_true, true_and, and_true, Nat.reduceLeDiff, toDs, toDk, toDs_sh, ↓zS_ii, ↓zS_bi, ↓zS_ownO]
  refine ⟨⟨by rw [List.length_map, sizeLine_eq]; omega, i0, by omega⟩, ?_⟩
  have e : (l.map OD.sh).take i.toNat ++ [OD.sh b] ++ (l.map OD.sh).drop i.toNat = (l.take i.toNat ++ [b] ++ l.drop i.toNat).map OD.sh := by
    simp only [List.map_append, List.map_take, List.map_drop, List.map_cons, List.map_nil]
  rw [e]
  refine hN (l.take i.toNat ++ [b] ++ l.drop i.toNat) ?_
  rw [List.append_assoc]
  refine (List.perm_append_comm_assoc _ _ _).trans ?_
  rw [List.take_append_drop]
  exact List.perm_append_comm
theorem mixd_f : ∀ (xs l : List D) (o3 : Option SD), l.length + xs.length ≤ 900 → (∀ (l' : List D) o3, l'.Perm (l ++ xs) → W.nx [some (.sh .bag), o1, some (.ow v (.lst (l'.map .sh))), o3]) →
    forD (gN 3) b__law_mixed_1 W xs [some (.sh .bag), o1, some (.ow v (.lst (l.map .sh))), o3]
  | [], l, o3, hl, hN => by
    rw [forD_n]
    exact hN l o3 (by rw [List.append_nil])
  | b :: xs, l, o3, hl, hN => by
    rw [List.length_cons] at hl
    have ih := fun (l' : List D) o3 (hp : l'.Perm (l ++ [b])) => mixd_f xs l' o3 (by rw [hp.length_eq, List.length_append, List.length_singleton]; omega) fun l2 o3 h2 => hN l2 o3 (h2.trans (by
      have := hp.append_right xs
      rwa [List.append_assoc] at this))
    rw [forD_c]
    generalize forD (gN 3) b__law_mixed_1 W xs = G at ih ⊢
    simp only [↓zHd0, zHp0, ↓zGd0, ↓zGd1, ↓zGd2, ↓zGd3, ↓zGd4, zGp0, startD, startC, ↓List.map_cons, ↓List.map_nil, ↓List.length_cons, ↓List.length_nil, Nat.reduceAdd, Nat.reduceSub, Nat.sub_self, List.replicate, ↓List.cons_append, ↓List.nil_append, List.append_nil, ↓List.getElem?_cons_zero, ↓List.getElem?_cons_succ, ↓List.set_cons_zero, ↓List.set_cons_succ, wipeD, Bool.not_true, Bool.not_false, decide_true, decide_false, beq_self_eq_true, true_and, and_true, Nat.reduceLeDiff, toDs, toDk, toDs_sh, ↓zS_ii, ↓zS_bi, ↓zS_ownO]
    exact mixd_1 (by omega) fun l' h => ih l' _ h
theorem mixedd_ok {l : List D} (hl : l.length ≤ 900) (hq : ∀ l' : List D, l'.Perm l → Q (.lst l')) : S__law_mixed [.bag, .lst l] Q := by
  refine ⟨rfl, ?_⟩
  show t__law_mixed _ [some (.sh .bag), some (.sh (.lst l)), none, none]
  simp only [t__law_mixed, ↓zHd0, zHp0, ↓zGd0, ↓zGd1, ↓zGd2, ↓zGd3, ↓zGd4, zGp0, startD, startC, ↓List.map_cons, ↓List.map_nil, ↓List.length_cons, ↓List.length_nil, Nat.reduceAdd, Nat.reduceSub, Nat.sub_self, List.replicate, ↓List.cons_append, ↓List.nil_append, List.append_nil, ↓List.getElem?_cons_zero, ↓List.getElem?_cons_succ, ↓List.set_cons_zero, ↓List.set_cons_succ, wipeD, Bool.not_true, Bool.not_false, decide_true, decide_false, beq_self_eq_true, true_and, and_true, Nat.reduceLeDiff, toDs, toDk, toDs_sh, ↓zS_ii, ↓zS_bi, ↓zS_ownO]
  intro v
  simp only [_law_mixed_at_2, ↓zHd0, zHp0, ↓zGd0, ↓zGd1, ↓zGd2, ↓zGd3, ↓zGd4, zGp0, startD, startC, ↓List.map_cons, ↓List.map_nil, ↓List.length_cons, ↓List.length_nil, Nat.reduceAdd, Nat.reduceSub, Nat.sub_self, List.replicate, ↓List.cons_append, ↓List.nil_append, List.append_nil, ↓List.getElem?_cons_zero, ↓List.getElem?_cons_succ, ↓List.set_cons_zero, ↓List.set_cons_succ, wipeD, Bool.not_true, Bool.not_false, decide_true, decide_false, beq_self_eq_true, true_and, and_true, Nat.reduceLeDiff, toDs, toDk, toDs_sh, ↓zS_ii, ↓zS_bi, ↓zS_ownO]
  refine mixd_f l [] none (by rw [List.length_nil]; omega) fun l' o3 h => ?_
  simp only [_law_mixed_at_4, ↓zHd0, zHp0, ↓zGd0, ↓zGd1, ↓zGd2, ↓zGd3, ↓zGd4, zGp0, startD, startC, ↓List.map_cons, ↓List.map_nil, ↓List.length_cons, ↓List.length_nil, Nat.reduceAdd, Nat.reduceSub, Nat.sub_self, List.replicate, ↓List.cons_append, ↓List.nil_append, List.append_nil, ↓List.getElem?_cons_zero, ↓List.getElem?_cons_succ, ↓List.set_cons_zero, ↓List.set_cons_succ, wipeD, Bool.not_true, Bool.not_false, decide_true, decide_false, beq_self_eq_true, true_and, and_true, Nat.reduceLeDiff, toDs, toDk, toDs_sh, ↓zS_ii, ↓zS_bi, ↓zS_ownO]
  exact hq l' h
theorem szF_app : ∀ (fs : List Fm) (f : Fm), szF (fs ++ [f]) = szF fs + (f.2.1 + f.2.2)
  | [], f => by
    show f.2.1 + f.2.2 + 0 = 0 + (f.2.1 + f.2.2)
    omega
  | g :: fs, f => by
    rw [List.cons_append, szF, szF_app fs f, szF]
    omega
/-- forms drawn -/
theorem forms_2 {y : Nat} {fs : List Fm} {k : Int} (hf : FsOk fs) (hy : szF fs + y ≤ 8) (hl : fs.length ≤ 3) (hN : ∀ (fs' : List Fm) (y' : Nat) o7 o8, FsOk fs' → szF fs' + y' ≤ 8 → fs'.length ≤ fs.length + 1 → W.nx [some (.sh .bag), o1, o2, some (.ow v (.lst (fs'.map fun f => .sh (fmD f)))), some (.sh (.int y')), some (.sh (.bl false)), some (.sh (.int k)), o7, o8]) :
    b__law_my_forms_1 W [some (.sh .bag), o1, o2, some (.ow v (.lst (fs.map fun f => .sh (fmD f)))), some (.sh (.int y)), some (.sh (.bl false)), some (.sh (.int k)), o7, o8] := by
  simp only [b__law_my_forms_1, ↓zHd0, zHp0, ↓zGd0, ↓zGd1, ↓zGd2, ↓zGd3, ↓zGd4, zGp0, startD, startC, ↓List.map_cons, ↓List.map_nil, ↓List.length_cons, ↓List.length_nil, Nat.reduceAdd, Nat.reduceSub, Nat.sub_self, List.replicate, ↓List.cons_append, ↓List.nil_append, List.append_nil, ↓List.getElem?_cons_zero, ↓List.getElem?_cons_succ, ↓List.set_cons_zero, ↓List.set_cons_succ, wipeD, Bool.not_true, Bool.not_false, decide_true, decide_false, beq_self_eq_true, true_and, and_true, Nat.reduceLeDiff, toDs, toDk, toDs_sh, ↓zS_ii, ↓zS_bi, ↓zS_ownO]
  refine take_of (by decide) (by decide) fun a a0 a1 => ?_
  try simp only [↓zHd0, zHp0, ↓zGd0, ↓zGd1, ↓zGd2, ↓zGd3, ↓zGd4, zGp0, startD, startC, ↓List.map_cons, ↓List.map_nil, ↓List.length_cons, ↓List.length_nil, Nat.reduceAdd, Nat.reduceSub, Nat.sub_self, List.replicate, ↓List.cons_append, ↓List.nil_append, List.append_nil, ↓List.getElem?_cons_zero, ↓List.getElem?_cons_succ, ↓List.set_cons_zero, ↓List.set_cons_succ, wipeD, Bool.not_true, Bool.not_false, decide_true, decide_false, beq_self_eq_true, true_and, and_true, Nat.reduceLeDiff, toDs, toDk, toDs_sh, ↓zS_ii, ↓zS_bi, ↓zS_ownO]
  refine take_of (by decide) (by decide) fun b b0 b1 => ?_
  try simp only [↓zHd0, zHp0, ↓zGd0, ↓zGd1, ↓zGd2, ↓zGd3, ↓zGd4, zGp0, startD, startC, ↓List.map_cons, ↓List.map_nil, ↓List.length_cons, ↓List.length_nil, Nat.reduceAdd, Nat.reduceSub, Nat.sub_self, List.replicate, ↓List.cons_append, ↓List.nil_append, List.append_nil, ↓List.getElem?_cons_zero, ↓List.getElem?_cons_succ, ↓List.set_cons_zero, ↓List.set_cons_succ, wipeD, Bool.not_true, Bool.not_false, decide_true, decide_false, beq_self_eq_true, true_and, and_true, Nat.reduceLeDiff, toDs, toDk, toDs_sh, ↓zS_ii, ↓zS_bi, ↓zS_ownO]
  simp only [_law_my_forms_at_4, ↓zHd0, zHp0, ↓zGd0, ↓zGd1, ↓zGd2, ↓zGd3, ↓zGd4, zGp0, startD, startC, ↓List.map_cons, ↓List.map_nil, ↓List.length_cons, ↓List.length_nil, Nat.reduceAdd, Nat.reduceSub, Nat.sub_self, List.replicate, ↓List.cons_append, ↓List.nil_append, List.append_nil, ↓List.getElem?_cons_zero, ↓List.getElem?_cons_succ, ↓List.set_cons_zero, ↓List.set_cons_succ, wipeD, Bool.not_true, Bool.not_false, decide_true, decide_false, beq_self_eq_true, true_and, and_true, Nat.reduceLeDiff, toDs, toDk, toDs_sh, ↓zS_ii, ↓zS_bi, ↓zS_ownO]
  simp only [_law_my_forms_at_6, ↓zHd0, zHp0, ↓zGd0, ↓zGd1, ↓zGd2, ↓zGd3, ↓zGd4, zGp0, startD, startC, ↓List.map_cons, ↓List.map_nil, ↓List.length_cons, ↓List.length_nil, Nat.reduceAdd, Nat.reduceSub, Nat.sub_self, List.replicate, ↓List.cons_append, ↓List.nil_append, List.append_nil, ↓List.getElem?_cons_zero, ↓List.getElem?_cons_succ, ↓List.set_cons_zero, ↓List.set_cons_succ, wipeD, Bool.not_true, Bool.not_false, decide_true, decide_false, beq_self_eq_true, true_and, and_true, Nat.reduceLeDiff, toDs, toDk, toDs_sh, ↓zS_ii, ↓zS_bi, ↓zS_ownO]
  obtain ⟨L, rfl⟩ : ∃ L : Nat, a = (L : Int) := ⟨a.toNat, by omega⟩
  obtain ⟨T, hT⟩ : ∃ T : Nat, 1 + b = (T : Int) := ⟨(1 + b).toNat, by omega⟩
  rw [hT]
  by_cases q : (L : Int) + T ≤ y
  · rw [decide_eq_true q]
    simp only [↓zHd0, zHp0, ↓zGd0, ↓zGd1, ↓zGd2, ↓zGd3, ↓zGd4, zGp0, startD, startC, ↓List.map_cons, ↓List.map_nil, ↓List.length_cons, ↓List.length_nil, Nat.reduceAdd, Nat.reduceSub, Nat.sub_self, List.replicate, ↓List.cons_append, ↓List.nil_append, List.append_nil, ↓List.getElem?_cons_zero, ↓List.getElem?_cons_succ, ↓List.set_cons_zero, ↓List.set_cons_succ, wipeD, Bool.not_true, Bool.not_false, decide_true, decide_false, beq_self_eq_true, true_and, and_true, Nat.reduceLeDiff, toDs, toDk, toDs_sh, ↓zS_ii, ↓zS_bi, ↓zS_ownO]
    refine ⟨⟨by decide, by decide⟩, fun d hd => ?_⟩
    have hr : ∃ t, t < 5 ∧ d = .str (rdN t) := by
      simp only [List.mem_cons, List.not_mem_nil, or_false] at hd
      rcases hd with rfl | rfl | rfl | rfl | rfl
      · exact ⟨0, by decide, rfl⟩
      · exact ⟨1, by decide, rfl⟩
      · exact ⟨2, by decide, rfl⟩
      · exact ⟨3, by decide, rfl⟩
      · exact ⟨4, by decide, rfl⟩
    obtain ⟨t, ht, rfl⟩ := hr
    have hok : FsOk (fs ++ [(t, L, T)]) := fun f hf' => by
      rcases List.mem_append.mp hf' with hf' | hf'
      · exact hf f hf'
      · rw [List.mem_singleton.mp hf']
        exact ⟨ht, by show 0 < T; omega⟩
    have hsz := szF_app fs (t, L, T)
    dsimp only at hsz
    refine ⟨by rw [List.length_map, sizeLine_eq]; omega, ?_⟩
    have e : (fs.map fun f => OD.sh (fmD f)) ++ [OD.sh (.tup [.str (rdN t), .int (L : Nat), .int (T : Nat)])] = (fs ++ [(t, L, T)]).map fun f => OD.sh (fmD f) := by
      rw [List.map_append]
      rfl
    rw [e]
    simp only [_law_my_forms_at_8, ↓zHd0, zHp0, ↓zGd0, ↓zGd1, ↓zGd2, ↓zGd3, ↓zGd4, zGp0, startD, startC, ↓List.map_cons, ↓List.map_nil, ↓List.length_cons, ↓List.length_nil, Nat.reduceAdd, Nat.reduceSub, Nat.sub_self, List.replicate, ↓List.cons_append, ↓List.nil_append, List.append_nil, ↓List.getElem?_cons_zero, ↓List.getElem?_cons_succ, ↓List.set_cons_zero, ↓List.set_cons_succ, wipeD, Bool.not_true, Bool.not_false, decide_true, decide_false, beq_self_eq_true, true_and, and_true, Nat.reduceLeDiff, toDs, toDk, toDs_sh, ↓zS_ii, ↓zS_bi, ↓zS_ownO]
    rw [show (y : Int) - L - T = ((y - L - T : Nat) : Int) by omega]
    exact hN _ _ _ _ hok (by omega) (by rw [List.length_append, List.length_singleton]; exact Nat.le_refl _)
  · rw [decide_eq_false q]
    simp only [↓zHd0, zHp0, ↓zGd0, ↓zGd1, ↓zGd2, ↓zGd3, ↓zGd4, zGp0, startD, startC, ↓List.map_cons, ↓List.map_nil, ↓List.length_cons, ↓List.length_nil, Nat.reduceAdd, Nat.reduceSub, Nat.sub_self, List.replicate, ↓List.cons_append, ↓List.nil_append, List.append_nil, ↓List.getElem?_cons_zero, ↓List.getElem?_cons_succ, ↓List.set_cons_zero, ↓List.set_cons_succ, wipeD, Bool.not_true, Bool.not_false, decide_true, decide_false, beq_self_eq_true, true_and, and_true, Nat.reduceLeDiff, toDs, toDk, toDs_sh, ↓zS_ii, ↓zS_bi, ↓zS_ownO]
    exact hN fs y _ _ hf hy (by omega)
theorem forms_f : ∀ (c : Nat) (i : Int) (fs : List Fm) (y : Nat) (o6 o7 o8 : Option SD), FsOk fs → szF fs + y ≤ 8 → fs.length + c ≤ 4 → (∀ (fs' : List Fm) (y' : Nat) o6 o7 o8, FsOk fs' → szF fs' + y' ≤ 8 → fs'.length ≤ 4 → W.nx [some (.sh .bag), o1, o2, some (.ow v (.lst (fs'.map fun f => .sh (fmD f)))), some (.sh (.int y')), some (.sh (.bl false)), o6, o7, o8]) →
    forD (gN 6) b__law_my_forms_1 W (ups i c) [some (.sh .bag), o1, o2, some (.ow v (.lst (fs.map fun f => .sh (fmD f)))), some (.sh (.int y)), some (.sh (.bl false)), o6, o7, o8]
  | 0, i, fs, y, o6, o7, o8, hf, hy, hl, hN => by
    rw [ups_zero, forD_n]
    exact hN fs y _ _ _ hf hy (by omega)
  | c + 1, i, fs, y, o6, o7, o8, hf, hy, hl, hN => by
    have ih := fun (fs' : List Fm) (y' : Nat) o6 o7 o8 (h1 : FsOk fs') (h2 : szF fs' + y' ≤ 8) (h3 : fs'.length ≤ fs.length + 1) => forms_f c (i + 1) fs' y' o6 o7 o8 h1 h2 (by omega) hN
    rw [ups_succ, forD_c]
    generalize forD (gN 6) b__law_my_forms_1 W (ups (i + 1) c) = G at ih ⊢
    simp only [↓zHd0, zHp0, ↓zGd0, ↓zGd1, ↓zGd2, ↓zGd3, ↓zGd4, zGp0, startD, startC, ↓List.map_cons, ↓List.map_nil, ↓List.length_cons, ↓List.length_nil, Nat.reduceAdd, Nat.reduceSub, Nat.sub_self, List.replicate, ↓List.cons_append, ↓List.nil_append, List.append_nil, ↓List.getElem?_cons_zero, ↓List.getElem?_cons_succ, ↓List.set_cons_zero, ↓List.set_cons_succ, wipeD, Bool.not_true, Bool.not_false, decide_true, decide_false, beq_self_eq_true, true_and, and_true, Nat.reduceLeDiff, toDs, toDk, toDs_sh, ↓zS_ii, ↓zS_bi, ↓zS_ownO]
    exact forms_2 hf hy (by omega) fun fs' y' o7 o8 h1 h2 h3 => ih fs' y' _ _ _ h1 h2 h3
theorem forms_ok (hq : ∀ fs : List Fm, FsOk fs → szF fs ≤ 8 → fs.length ≤ 4 → Q (fsD fs)) : S__law_my_forms [.bag, .int 4, .int 8] Q := by
  refine ⟨rfl, ?_⟩
  show t__law_my_forms _ [some (.sh .bag), some (.sh (.int 4)), some (.sh (.int 8)), none, none, none, none, none, none]
  simp only [t__law_my_forms, ↓zHd0, zHp0, ↓zGd0, ↓zGd1, ↓zGd2, ↓zGd3, ↓zGd4, zGp0, startD, startC, ↓List.map_cons, ↓List.map_nil, ↓List.length_cons, ↓List.length_nil, Nat.reduceAdd, Nat.reduceSub, Nat.sub_self, List.replicate, ↓List.cons_append, ↓List.nil_append, List.append_nil, ↓List.getElem?_cons_zero, ↓List.getElem?_cons_succ, ↓List.set_cons_zero, ↓List.set_cons_succ, wipeD, Bool.not_true, Bool.not_false, decide_true, decide_false, beq_self_eq_true, true_and, and_true, Nat.reduceLeDiff, toDs, toDk, toDs_sh, ↓zS_ii, ↓zS_bi, ↓zS_ownO]
  rw [show decide ((16 : Int) < 8) = false from rfl]
  simp only [↓zHd0, zHp0, ↓zGd0, ↓zGd1, ↓zGd2, ↓zGd3, ↓zGd4, zGp0, startD, startC, ↓List.map_cons, ↓List.map_nil, ↓List.length_cons, ↓List.length_nil, Nat.reduceAdd, Nat.reduceSub, Nat.sub_self, List.replicate, ↓List.cons_append, ↓List.nil_append, List.append_nil, ↓List.getElem?_cons_zero, ↓List.getElem?_cons_succ, ↓List.set_cons_zero, ↓List.set_cons_succ, wipeD, Bool.not_true, Bool.not_false, decide_true, decide_false, beq_self_eq_true, true_and, and_true, Nat.reduceLeDiff, toDs, toDk, toDs_sh, ↓zS_ii, ↓zS_bi, ↓zS_ownO]
  intro u v w
  simp only [_law_my_forms_at_2, ↓zHd0, zHp0, ↓zGd0, ↓zGd1, ↓zGd2, ↓zGd3, ↓zGd4, zGp0, startD, startC, ↓List.map_cons, ↓List.map_nil, ↓List.length_cons, ↓List.length_nil, Nat.reduceAdd, Nat.reduceSub, Nat.sub_self, List.replicate, ↓List.cons_append, ↓List.nil_append, List.append_nil, ↓List.getElem?_cons_zero, ↓List.getElem?_cons_succ, ↓List.set_cons_zero, ↓List.set_cons_succ, wipeD, Bool.not_true, Bool.not_false, decide_true, decide_false, beq_self_eq_true, true_and, and_true, Nat.reduceLeDiff, toDs, toDk, toDs_sh, ↓zS_ii, ↓zS_bi, ↓zS_ownO]
  refine take_of (by decide) (by decide) fun a a0 a1 => ?_
  try simp only [↓zHd0, zHp0, ↓zGd0, ↓zGd1, ↓zGd2, ↓zGd3, ↓zGd4, zGp0, startD, startC, ↓List.map_cons, ↓List.map_nil, ↓List.length_cons, ↓List.length_nil, Nat.reduceAdd, Nat.reduceSub, Nat.sub_self, List.replicate, ↓List.cons_append, ↓List.nil_append, List.append_nil, ↓List.getElem?_cons_zero, ↓List.getElem?_cons_succ, ↓List.set_cons_zero, ↓List.set_cons_succ, wipeD, Bool.not_true, Bool.not_false, decide_true, decide_false, beq_self_eq_true, true_and, and_true, Nat.reduceLeDiff, toDs, toDk, toDs_sh, ↓zS_ii, ↓zS_bi, ↓zS_ownO]
  refine ⟨⟨by omega, by omega⟩, ?_⟩
  refine forms_f a.toNat 0 [] 8 _ _ _ (fun f hf => nomatch hf) (by decide) (by show 0 + _ ≤ 4; omega) fun fs' y' o6 o7 o8 h1 h2 h3 => ?_
  simp only [_law_my_forms_at_9, ↓zHd0, zHp0, ↓zGd0, ↓zGd1, ↓zGd2, ↓zGd3, ↓zGd4, zGp0, startD, startC, ↓List.map_cons, ↓List.map_nil, ↓List.length_cons, ↓List.length_nil, Nat.reduceAdd, Nat.reduceSub, Nat.sub_self, List.replicate, ↓List.cons_append, ↓List.nil_append, List.append_nil, ↓List.getElem?_cons_zero, ↓List.getElem?_cons_succ, ↓List.set_cons_zero, ↓List.set_cons_succ, wipeD, Bool.not_true, Bool.not_false, decide_true, decide_false, beq_self_eq_true, true_and, and_true, Nat.reduceLeDiff, toDs, toDk, toDs_sh, ↓zS_ii, ↓zS_bi, ↓zS_ownO]
  have e : toDs (fs'.map fun f => OD.sh (fmD f)) = fs'.map fmD := by
    rw [show (fs'.map fun f => OD.sh (fmD f)) = (fs'.map fmD).map OD.sh by rw [List.map_map]; rfl, toDs_sh]
  rw [e]
  exact hq fs' h1 (by omega) h3
theorem size_ok (h : FsOk fs) (hl : fs.length ≤ 4) (hq : Q (.int (szF fs))) : S__law_my_size [fsD fs] Q := by
  refine ⟨rfl, ?_⟩
  show t__law_my_size _ [some (.sh (fsD fs)), none]
  simp only [t__law_my_size, ↓zHd0, zHp0, ↓zGd0, ↓zGd1, ↓zGd2, ↓zGd3, ↓zGd4, zGp0, startD, startC, ↓List.map_cons, ↓List.map_nil, ↓List.length_cons, ↓List.length_nil, Nat.reduceAdd, Nat.reduceSub, Nat.sub_self, List.replicate, ↓List.cons_append, ↓List.nil_append, List.append_nil, ↓List.getElem?_cons_zero, ↓List.getElem?_cons_succ, ↓List.set_cons_zero, ↓List.set_cons_succ, wipeD, Bool.not_true, Bool.not_false, decide_true, decide_false, beq_self_eq_true, true_and, and_true, Nat.reduceLeDiff, toDs, toDk, toDs_sh, ↓zS_ii, ↓zS_bi, ↓zS_ownO]
  refine ⟨by rw [List.length_map, sizeLine_eq]; omega, ?_⟩
  refine lc_of (α := Fm) fmD (fun f => .int ((f.2.1 : Int) + f.2.2)) fs [] (fun f hf R2 hR2 => ?_) ?_
  · simp only [fmD, ↓zHd0, zHp0, ↓zGd0, ↓zGd1, ↓zGd2, ↓zGd3, ↓zGd4, zGp0, startD, startC, ↓List.map_cons, ↓List.map_nil, ↓List.length_cons, ↓List.length_nil, Nat.reduceAdd, Nat.reduceSub, Nat.sub_self, List.replicate, ↓List.cons_append, ↓List.nil_append, List.append_nil, ↓List.getElem?_cons_zero, ↓List.getElem?_cons_succ, ↓List.set_cons_zero, ↓List.set_cons_succ, wipeD, Bool.not_true, Bool.not_false, decide_true, decide_false, beq_self_eq_true, true_and, and_true, Nat.reduceLeDiff, toDs, toDk, toDs_sh, ↓zS_ii, ↓zS_bi, ↓zS_ownO]
    exact hR2
  · rw [List.nil_append]
    refine ⟨fs.map fun f => (f.2.1 : Int) + f.2.2, by rw [List.map_map]; rfl, ?_⟩
    have e : ∀ l : List Fm, (l.map fun f => (f.2.1 : Int) + f.2.2).sum = (szF l : Int) := fun l => by
      induction l with
      | nil => rfl
      | cons f l ih =>
        rw [List.map_cons, List.sum_cons, ih, szF]
        omega
    rw [e]
    exact hq
/-- all texts of so many signs -/
def strB : Nat → List (List Bool)
  | 0 => [[]]
  | k + 1 => (strB k).flatMap fun s => [s ++ [false], s ++ [true]]
theorem strB_len : ∀ k, (strB k).length = 2 ^ k
  | 0 => rfl
  | k + 1 => by
    rw [strB, flat_len _ 2 _ fun _ _ => rfl, strB_len k, Nat.pow_succ]
theorem mem_strB : ∀ {k : Nat} {s : List Bool}, s ∈ strB k ↔ s.length = k
  | 0, s => by
    rw [strB, List.mem_singleton, List.length_eq_zero_iff]
  | k + 1, s => by
    rw [strB, List.mem_flatMap]
    constructor
    · rintro ⟨t, ht, h⟩
      have := mem_strB.mp ht
      rcases List.mem_cons.mp h with rfl | h
      · rw [List.length_append, List.length_singleton, this]
      · rw [List.mem_singleton.mp h, List.length_append, List.length_singleton, this]
    · intro h
      have hne : s ≠ [] := fun z => by rw [z] at h; cases h
      refine ⟨s.dropLast, mem_strB.mpr (by rw [List.length_dropLast, h]; rfl), ?_⟩
      have e := List.dropLast_concat_getLast hne
      cases q : s.getLast hne with
      | false => rw [q] at e; rw [← e]; simp
      | true => rw [q] at e; rw [← e]; simp
theorem str_1 : ∀ (xs : List (List Bool)) (acc : List (List Bool)) (o4 : Option SD), (∀ s ∈ xs, s.length ≤ 900) → acc.length + 2 * xs.length ≤ 9000 → (∀ o4, W.nx [o0, o1, o2, some (.sh (.lst ((acc ++ xs.flatMap fun s => [s ++ [false], s ++ [true]]).map fun s => .str (bT s)))), o4]) →
    forD (gN 4) b__law_my_strings_1 W (xs.map fun s => .str (bT s)) [o0, o1, o2, some (.sh (.lst (acc.map fun s => .str (bT s)))), o4]
  | [], acc, o4, _, _, hN => by
    rw [List.map_nil, forD_n]
    have := hN o4
    rwa [List.flatMap_nil, List.append_nil] at this
  | s :: xs, acc, o4, hs, hz, hN => by
    rw [List.length_cons] at hz
    have sl := hs s List.mem_cons_self
    have ih := fun o4 => str_1 xs (acc ++ [s ++ [false], s ++ [true]]) o4 (fun t ht => hs t (List.mem_cons_of_mem _ ht)) (by rw [List.length_append]; show acc.length + 2 + 2 * xs.length ≤ 9000; omega) (by
      intro o4
      have := hN o4
      rwa [List.flatMap_cons, ← List.append_assoc] at this)
    rw [List.map_cons, forD_c]
    generalize forD (gN 4) b__law_my_strings_1 W (xs.map fun s => .str (bT s)) = G at ih ⊢
    simp only [b__law_my_strings_1, ↓zHd0, zHp0, ↓zGd0, ↓zGd1, ↓zGd2, ↓zGd3, ↓zGd4, zGp0, startD, startC, ↓List.map_cons, ↓List.map_nil, ↓List.length_cons, ↓List.length_nil, Nat.reduceAdd, Nat.reduceSub, Nat.sub_self, List.replicate, ↓List.cons_append, ↓List.nil_append, List.append_nil, ↓List.getElem?_cons_zero, ↓List.getElem?_cons_succ, ↓List.set_cons_zero, ↓List.set_cons_succ, wipeD, Bool.not_true, Bool.not_false, decide_true, decide_false, beq_self_eq_true, true_and, and_true, Nat.reduceLeDiff, toDs, toDk, toDs_sh, ↓zS_ii, ↓zS_bi, ↓zS_ownO]
    have e0 : Str.ofString "0" = bT [false] := rfl
    have e1 : Str.ofString "1" = bT [true] := rfl
    rw [e0, e1, bT_app, bT_app, bT_len, bT_len, bT_len, List.length_map, List.length_singleton, List.length_singleton, sizeLine_eq]
    have e : (acc.map fun s => D.str (bT s)) ++ [D.str (bT (s ++ [false])), D.str (bT (s ++ [true]))] = (acc ++ [s ++ [false], s ++ [true]]).map fun s => D.str (bT s) := by
      rw [List.map_append]
      rfl
    rw [e]
    exact ⟨by omega, by omega, by omega, ih _⟩
theorem places_1 : ∀ (fs : List Fm) (a : Nat) (acc : List Nat) (o9 o10 o11 o12 : Option SD), FsOk fs → a + szF fs ≤ 900 → acc.length + fs.length ≤ 900 →
    (∀ o8 o9 o10 o11 o12, W.nx [o0, o1, o2, o3, o4, o5, some (.sh (.dic (nmD n m x))), some (.ow v (lN (acc ++ pls n m x fs a))), o8, o9, o10, o11, o12]) →
    forD (gT 3 (gsCons (gN 9) (gsCons (gN 10) (gsCons (gN 11) gsNil)))) b__law_my_places_1 W (fs.map fmD) [o0, o1, o2, o3, o4, o5, some (.sh (.dic (nmD n m x))), some (.ow v (lN acc)), some (.sh (.int a)), o9, o10, o11, o12]
  | [], a, acc, o9, o10, o11, o12, _, _, _, hN => by
    rw [List.map_nil, forD_n]
    have := hN (some (.sh (.int a))) o9 o10 o11 o12
    rwa [pls, List.append_nil] at this
  | f :: fs, a, acc, o9, o10, o11, o12, hf, hz, hl, hN => by
    have f5 := (hf f List.mem_cons_self).1
    have p0 := (hf f List.mem_cons_self).2
    have sl := spotF_lt p0 (nmb n m x f.1)
    rw [szF] at hz
    rw [List.length_cons] at hl
    have ih := fun o9 o10 o11 o12 => places_1 fs (a + f.2.1 + f.2.2) (acc ++ [a + spotF f (nmb n m x f.1)]) o9 o10 o11 o12 (fun g hg => hf g (List.mem_cons_of_mem _ hg)) (by omega) (by rw [List.length_append, List.length_singleton]; omega) (by
      intro o8 o9 o10 o11 o12
      have := hN o8 o9 o10 o11 o12
      rwa [pls, List.append_cons] at this)
    rw [List.map_cons, forD_c]
    generalize forD (gT 3 (gsCons (gN 9) (gsCons (gN 10) (gsCons (gN 11) gsNil)))) b__law_my_places_1 W (fs.map fmD) = G at ih ⊢
    simp only [fmD, b__law_my_places_1, ↓zHd0, zHp0, ↓zGd0, ↓zGd1, ↓zGd2, ↓zGd3, ↓zGd4, zGp0, startD, startC, ↓List.map_cons, ↓List.map_nil, ↓List.length_cons, ↓List.length_nil, Nat.reduceAdd, Nat.reduceSub, Nat.sub_self, List.replicate, ↓List.cons_append, ↓List.nil_append, List.append_nil, ↓List.getElem?_cons_zero, ↓List.getElem?_cons_succ, ↓List.set_cons_zero, ↓List.set_cons_succ, wipeD, Bool.not_true, Bool.not_false, decide_true, decide_false, beq_self_eq_true, true_and, and_true, Nat.reduceLeDiff, toDs, toDk, toDs_sh, ↓zS_ii, ↓zS_bi, ↓zS_ownO]
    rw [nm_look _ f5]
    simp only [_law_my_places_at_5, ↓zHd0, zHp0, ↓zGd0, ↓zGd1, ↓zGd2, ↓zGd3, ↓zGd4, zGp0, startD, startC, ↓List.map_cons, ↓List.map_nil, ↓List.length_cons, ↓List.length_nil, Nat.reduceAdd, Nat.reduceSub, Nat.sub_self, List.replicate, ↓List.cons_append, ↓List.nil_append, List.append_nil, ↓List.getElem?_cons_zero, ↓List.getElem?_cons_succ, ↓List.set_cons_zero, ↓List.set_cons_succ, wipeD, Bool.not_true, Bool.not_false, decide_true, decide_false, beq_self_eq_true, true_and, and_true, Nat.reduceLeDiff, toDs, toDk, toDs_sh, ↓zS_ii, ↓zS_bi, ↓zS_ownO]
    have fin : (acc.map fun k : Nat => OD.sh (.int k)).length < sizeLine ∧ _law_my_places_at_6 { nx := G, rt := W.rt, bk := W.bk, ct := W.ct, ro := W.ro } [o0, o1, o2, o3, o4, o5, some (.sh (.dic (nmD n m x))), some (.ow v (.lst ((acc.map fun k : Nat => OD.sh (.int k)) ++ [.sh (.int ((a : Int) + (spotF f (nmb n m x f.1) : Nat)))]))), some (.sh (.int a)), some (.sh (.str (rdN f.1))), some (.sh (.int f.2.1)), some (.sh (.int f.2.2)), some (.sh (.int (nmb n m x f.1 : Nat)))] := by
      have e : (acc.map fun k : Nat => OD.sh (.int k)) ++ [.sh (.int ((a : Int) + (spotF f (nmb n m x f.1) : Nat)))] = (acc ++ [a + spotF f (nmb n m x f.1)]).map fun k : Nat => OD.sh (.int k) := by
        rw [List.map_append]
        rfl
      rw [e]
      refine ⟨by rw [List.length_map, sizeLine_eq]; omega, ?_⟩
      simp only [_law_my_places_at_6, ↓zHd0, zHp0, ↓zGd0, ↓zGd1, ↓zGd2, ↓zGd3, ↓zGd4, zGp0, startD, startC, ↓List.map_cons, ↓List.map_nil, ↓List.length_cons, ↓List.length_nil, Nat.reduceAdd, Nat.reduceSub, Nat.sub_self, List.replicate, ↓List.cons_append, ↓List.nil_append, List.append_nil, ↓List.getElem?_cons_zero, ↓List.getElem?_cons_succ, ↓List.set_cons_zero, ↓List.set_cons_succ, wipeD, Bool.not_true, Bool.not_false, decide_true, decide_false, beq_self_eq_true, true_and, and_true, Nat.reduceLeDiff, toDs, toDk, toDs_sh, ↓zS_ii, ↓zS_bi, ↓zS_ownO]
      have e2 : (a : Int) + ((f.2.1 : Int) + f.2.2) = ((a + f.2.1 + f.2.2 : Nat) : Int) := by omega
      rw [e2]
      exact ih _ _ _ _
    have si := spot_int p0 (nmb n m x f.1)
    by_cases q : (nmb n m x f.1 : Int) < f.2.1
    · rw [decide_eq_true q]
      rw [if_pos q] at si
      simp only [↓zHd0, zHp0, ↓zGd0, ↓zGd1, ↓zGd2, ↓zGd3, ↓zGd4, zGp0, startD, startC, ↓List.map_cons, ↓List.map_nil, ↓List.length_cons, ↓List.length_nil, Nat.reduceAdd, Nat.reduceSub, Nat.sub_self, List.replicate, ↓List.cons_append, ↓List.nil_append, List.append_nil, ↓List.getElem?_cons_zero, ↓List.getElem?_cons_succ, ↓List.set_cons_zero, ↓List.set_cons_succ, wipeD, Bool.not_true, Bool.not_false, decide_true, decide_false, beq_self_eq_true, true_and, and_true, Nat.reduceLeDiff, toDs, toDk, toDs_sh, ↓zS_ii, ↓zS_bi, ↓zS_ownO]
      rw [← si] at fin
      exact fin
    · rw [decide_eq_false q]
      rw [if_neg q] at si
      simp only [↓zHd0, zHp0, ↓zGd0, ↓zGd1, ↓zGd2, ↓zGd3, ↓zGd4, zGp0, startD, startC, ↓List.map_cons, ↓List.map_nil, ↓List.length_cons, ↓List.length_nil, Nat.reduceAdd, Nat.reduceSub, Nat.sub_self, List.replicate, ↓List.cons_append, ↓List.nil_append, List.append_nil, ↓List.getElem?_cons_zero, ↓List.getElem?_cons_succ, ↓List.set_cons_zero, ↓List.set_cons_succ, wipeD, Bool.not_true, Bool.not_false, decide_true, decide_false, beq_self_eq_true, true_and, and_true, Nat.reduceLeDiff, toDs, toDk, toDs_sh, ↓zS_ii, ↓zS_bi, ↓zS_ownO]
      rw [← si] at fin
      exact ⟨by omega, fin⟩
theorem places_ok (h : FsOk fs) (hz : szF fs ≤ 40) (hl : fs.length ≤ 4) (hn : n ≤ 8) (hm : m ≤ 8) (hx : x.1 < 6 ∧ x.2.1 < n ∧ x.2.2 < m) (hq : Q (nL (pls n m x fs 0))) : S__law_my_places [fsD fs, .int x.1, .int x.2.1, .int x.2.2, .int n, .int m] Q := by
  have b1 : x.1 * m ≤ 6 * 8 := Nat.mul_le_mul (by omega) hm
  have b2 : x.1 * n ≤ 6 * 8 := Nat.mul_le_mul (by omega) hn
  refine ⟨rfl, ?_⟩
  show t__law_my_places _ [some (.sh (fsD fs)), some (.sh (.int x.1)), some (.sh (.int x.2.1)), some (.sh (.int x.2.2)), some (.sh (.int n)), some (.sh (.int m)), none, none, none, none, none, none, none]
  simp only [t__law_my_places, ↓zHd0, zHp0, ↓zGd0, ↓zGd1, ↓zGd2, ↓zGd3, ↓zGd4, zGp0, startD, startC, ↓List.map_cons, ↓List.map_nil, ↓List.length_cons, ↓List.length_nil, Nat.reduceAdd, Nat.reduceSub, Nat.sub_self, List.replicate, ↓List.cons_append, ↓List.nil_append, List.append_nil, ↓List.getElem?_cons_zero, ↓List.getElem?_cons_succ, ↓List.set_cons_zero, ↓List.set_cons_succ, wipeD, Bool.not_true, Bool.not_false, decide_true, decide_false, beq_self_eq_true, true_and, and_true, Nat.reduceLeDiff, toDs, toDk, toDs_sh, ↓zS_ii, ↓zS_bi, ↓zS_ownO]
  refine ⟨.inl (.inl ⟨by omega, by omega⟩), ?_⟩
  refine ⟨.inl (.inl ⟨by omega, by omega⟩), ?_⟩
  simp only [_law_my_places_at_2, ↓zHd0, zHp0, ↓zGd0, ↓zGd1, ↓zGd2, ↓zGd3, ↓zGd4, zGp0, startD, startC, ↓List.map_cons, ↓List.map_nil, ↓List.length_cons, ↓List.length_nil, Nat.reduceAdd, Nat.reduceSub, Nat.sub_self, List.replicate, ↓List.cons_append, ↓List.nil_append, List.append_nil, ↓List.getElem?_cons_zero, ↓List.getElem?_cons_succ, ↓List.set_cons_zero, ↓List.set_cons_succ, wipeD, Bool.not_true, Bool.not_false, decide_true, decide_false, beq_self_eq_true, true_and, and_true, Nat.reduceLeDiff, toDs, toDk, toDs_sh, ↓zS_ii, ↓zS_bi, ↓zS_ownO]
  intro u w
  simp only [_law_my_places_at_3, ↓zHd0, zHp0, ↓zGd0, ↓zGd1, ↓zGd2, ↓zGd3, ↓zGd4, zGp0, startD, startC, ↓List.map_cons, ↓List.map_nil, ↓List.length_cons, ↓List.length_nil, Nat.reduceAdd, Nat.reduceSub, Nat.sub_self, List.replicate, ↓List.cons_append, ↓List.nil_append, List.append_nil, ↓List.getElem?_cons_zero, ↓List.getElem?_cons_succ, ↓List.set_cons_zero, ↓List.set_cons_succ, wipeD, Bool.not_true, Bool.not_false, decide_true, decide_false, beq_self_eq_true, true_and, and_true, Nat.reduceLeDiff, toDs, toDk, toDs_sh, ↓zS_ii, ↓zS_bi, ↓zS_ownO]
  refine places_1 fs 0 [] _ _ _ _ h (by omega) (by show 0 + _ ≤ 900; omega) fun o8 o9 o10 o11 o12 => ?_
  rw [List.nil_append]
  simp only [_law_my_places_at_7, ↓zHd0, zHp0, ↓zGd0, ↓zGd1, ↓zGd2, ↓zGd3, ↓zGd4, zGp0, startD, startC, ↓List.map_cons, ↓List.map_nil, ↓List.length_cons, ↓List.length_nil, Nat.reduceAdd, Nat.reduceSub, Nat.sub_self, List.replicate, ↓List.cons_append, ↓List.nil_append, List.append_nil, ↓List.getElem?_cons_zero, ↓List.getElem?_cons_succ, ↓List.set_cons_zero, ↓List.set_cons_succ, wipeD, Bool.not_true, Bool.not_false, decide_true, decide_false, beq_self_eq_true, true_and, and_true, Nat.reduceLeDiff, toDs, toDk, toDs_sh, ↓zS_ii, ↓zS_bi, ↓zS_ownO]
  rw [toDs_n]
  exact hq
theorem meets_2 {acc : List Mt3} {r i : Nat} (hm : m ≤ 8) (ha : acc.length ≤ 500) (hN : W.nx [o0, some (.sh (.int m)), o2, some (.sh (.lst ((acc ++ (List.range m).map fun j => (r, i, j)).map mtD))), some (.sh (.int r)), some (.sh (.int i)), o6]) :
    b__law_my_meetings_1 W [o0, some (.sh (.int m)), o2, some (.sh (.lst (acc.map mtD))), some (.sh (.int r)), some (.sh (.int i)), o6] := by
  simp only [b__law_my_meetings_1, ↓zHd0, zHp0, ↓zGd0, ↓zGd1, ↓zGd2, ↓zGd3, ↓zGd4, zGp0, startD, startC, ↓List.map_cons, ↓List.map_nil, ↓List.length_cons, ↓List.length_nil, Nat.reduceAdd, Nat.reduceSub, Nat.sub_self, List.replicate, ↓List.cons_append, ↓List.nil_append, List.append_nil, ↓List.getElem?_cons_zero, ↓List.getElem?_cons_succ, ↓List.set_cons_zero, ↓List.set_cons_succ, wipeD, Bool.not_true, Bool.not_false, decide_true, decide_false, beq_self_eq_true, true_and, and_true, Nat.reduceLeDiff, toDs, toDk, toDs_sh, ↓zS_ii, ↓zS_bi, ↓zS_ownO]
  refine ⟨⟨by omega, by omega⟩, ?_⟩
  rw [Int.toNat_natCast, ups_r]
  refine ⟨by rw [List.length_map, List.length_range, sizeLine_eq]; omega, ?_⟩
  refine lc_of (α := Nat) (fun j => .int j) (fun j => mtD (r, i, j)) (List.range m) [] (fun j hj R2 hR2 => ?_) ?_
  · simp only [↓zHd0, zHp0, ↓zGd0, ↓zGd1, ↓zGd2, ↓zGd3, ↓zGd4, zGp0, startD, startC, ↓List.map_cons, ↓List.map_nil, ↓List.length_cons, ↓List.length_nil, Nat.reduceAdd, Nat.reduceSub, Nat.sub_self, List.replicate, ↓List.cons_append, ↓List.nil_append, List.append_nil, ↓List.getElem?_cons_zero, ↓List.getElem?_cons_succ, ↓List.set_cons_zero, ↓List.set_cons_succ, wipeD, Bool.not_true, Bool.not_false, decide_true, decide_false, beq_self_eq_true, true_and, and_true, Nat.reduceLeDiff, toDs, toDk, toDs_sh, ↓zS_ii, ↓zS_bi, ↓zS_ownO]
    exact hR2
  · rw [List.nil_append]
    have e : acc.map mtD ++ (List.range m).map (fun j => mtD (r, i, j)) = (acc ++ (List.range m).map fun j => (r, i, j)).map mtD := by
      rw [List.map_append, List.map_map]
      rfl
    rw [e, List.length_map, List.length_map, List.length_range]
    exact ⟨by rw [sizeLine_eq]; omega, hN⟩
theorem meets_f {r : Nat} (hm : m ≤ 8) : ∀ (c i : Nat) (acc : List Mt3) (o5 : Option SD), acc.length + c * m ≤ 500 → (∀ o5, W.nx [o0, some (.sh (.int m)), o2, some (.sh (.lst ((acc ++ (List.range' i c).flatMap fun i => (List.range m).map fun j => (r, i, j)).map mtD))), some (.sh (.int r)), o5, o6]) →
    forD (gN 5) b__law_my_meetings_1 W (ups i c) [o0, some (.sh (.int m)), o2, some (.sh (.lst (acc.map mtD))), some (.sh (.int r)), o5, o6]
  | 0, i, acc, o5, _, hN => by
    rw [ups_zero, forD_n]
    have := hN o5
    rwa [List.range'_zero, List.flatMap_nil, List.append_nil] at this
  | c + 1, i, acc, o5, hz, hN => by
    rw [Nat.add_mul, Nat.one_mul] at hz
    have ih := fun o5 => meets_f hm c (i + 1) (acc ++ (List.range m).map fun j => (r, i, j)) o5 (by rw [List.length_append, List.length_map, List.length_range]; omega) (by
      intro o5
      have := hN o5
      rwa [List.range'_succ, List.flatMap_cons, ← List.append_assoc] at this)
    rw [Int.natCast_succ] at ih
    rw [ups_succ, forD_c]
    generalize forD (gN 5) b__law_my_meetings_1 W (ups ((i : Int) + 1) c) = G at ih ⊢
    simp only [↓zHd0, zHp0, ↓zGd0, ↓zGd1, ↓zGd2, ↓zGd3, ↓zGd4, zGp0, startD, startC, ↓List.map_cons, ↓List.map_nil, ↓List.length_cons, ↓List.length_nil, Nat.reduceAdd, Nat.reduceSub, Nat.sub_self, List.replicate, ↓List.cons_append, ↓List.nil_append, List.append_nil, ↓List.getElem?_cons_zero, ↓List.getElem?_cons_succ, ↓List.set_cons_zero, ↓List.set_cons_succ, wipeD, Bool.not_true, Bool.not_false, decide_true, decide_false, beq_self_eq_true, true_and, and_true, Nat.reduceLeDiff, toDs, toDk, toDs_sh, ↓zS_ii, ↓zS_bi, ↓zS_ownO]
    exact meets_2 hm (by omega) (ih _)
theorem meets_g (hn : n ≤ 8) (hm : m ≤ 8) : ∀ (c r : Nat) (acc : List Mt3) (o4 o5 o6 : Option SD), acc.length + c * (n * m) ≤ 500 → (∀ o4 o5 o6, W.nx [some (.sh (.int n)), some (.sh (.int m)), o2, some (.sh (.lst ((acc ++ (List.range' r c).flatMap fun r => (List.range n).flatMap fun i => (List.range m).map fun j => (r, i, j)).map mtD))), o4, o5, o6]) →
    forD (gN 4) b__law_my_meetings_2 W (ups r c) [some (.sh (.int n)), some (.sh (.int m)), o2, some (.sh (.lst (acc.map mtD))), o4, o5, o6]
  | 0, r, acc, o4, o5, o6, _, hN => by
    rw [ups_zero, forD_n]
    have := hN o4 o5 o6
    rwa [List.range'_zero, List.flatMap_nil, List.append_nil] at this
  | c + 1, r, acc, o4, o5, o6, hz, hN => by
    rw [Nat.add_mul, Nat.one_mul] at hz
    have bl : ((List.range n).flatMap fun i => (List.range m).map fun j => (r, i, j)).length = n * m := by rw [flat_len _ m _ fun i _ => by rw [List.length_map, List.length_range], List.length_range]
    have ih := fun o4 o5 o6 => meets_g hn hm c (r + 1) (acc ++ (List.range n).flatMap fun i => (List.range m).map fun j => (r, i, j)) o4 o5 o6 (by rw [List.length_append, bl]; omega) (by
      intro o4 o5 o6
      have := hN o4 o5 o6
      rwa [List.range'_succ, List.flatMap_cons, ← List.append_assoc] at this)
    rw [Int.natCast_succ] at ih
    rw [ups_succ, forD_c]
    generalize forD (gN 4) b__law_my_meetings_2 W (ups ((r : Int) + 1) c) = G at ih ⊢
    simp only [b__law_my_meetings_2, ↓zHd0, zHp0, ↓zGd0, ↓zGd1, ↓zGd2, ↓zGd3, ↓zGd4, zGp0, startD, startC, ↓List.map_cons, ↓List.map_nil, ↓List.length_cons, ↓List.length_nil, Nat.reduceAdd, Nat.reduceSub, Nat.sub_self, List.replicate, ↓List.cons_append, ↓List.nil_append, List.append_nil, ↓List.getElem?_cons_zero, ↓List.getElem?_cons_succ, ↓List.set_cons_zero, ↓List.set_cons_succ, wipeD, Bool.not_true, Bool.not_false, decide_true, decide_false, beq_self_eq_true, true_and, and_true, Nat.reduceLeDiff, toDs, toDk, toDs_sh, ↓zS_ii, ↓zS_bi, ↓zS_ownO]
    refine ⟨⟨by omega, by omega⟩, ?_⟩
    rw [Int.toNat_natCast]
    refine meets_f hm n 0 acc _ (by omega) fun o5 => ?_
    rw [← List.range_eq_range']
    exact ih _ _ _
theorem lmeets_ok (hn : n ≤ 8) (hm : m ≤ 8) (hR : R ≤ 6) (hq : Q (.lst ((mts n m R).map mtD))) : S__law_my_meetings [.int n, .int m, .int R] Q := by
  have hb : R * (n * m) ≤ 6 * (8 * 8) := Nat.mul_le_mul hR (Nat.mul_le_mul hn hm)
  refine ⟨rfl, ?_⟩
  show t__law_my_meetings _ [some (.sh (.int n)), some (.sh (.int m)), some (.sh (.int R)), none, none, none, none]
  simp only [t__law_my_meetings, ↓zHd0, zHp0, ↓zGd0, ↓zGd1, ↓zGd2, ↓zGd3, ↓zGd4, zGp0, startD, startC, ↓List.map_cons, ↓List.map_nil, ↓List.length_cons, ↓List.length_nil, Nat.reduceAdd, Nat.reduceSub, Nat.sub_self, List.replicate, ↓List.cons_append, ↓List.nil_append, List.append_nil, ↓List.getElem?_cons_zero, ↓List.getElem?_cons_succ, ↓List.set_cons_zero, ↓List.set_cons_succ, wipeD, Bool.not_true, Bool.not_false, decide_true, decide_false, beq_self_eq_true, true_and, and_true, Nat.reduceLeDiff, toDs, toDk, toDs_sh, ↓zS_ii, ↓zS_bi, ↓zS_ownO]
  simp only [_law_my_meetings_at_2, ↓zHd0, zHp0, ↓zGd0, ↓zGd1, ↓zGd2, ↓zGd3, ↓zGd4, zGp0, startD, startC, ↓List.map_cons, ↓List.map_nil, ↓List.length_cons, ↓List.length_nil, Nat.reduceAdd, Nat.reduceSub, Nat.sub_self, List.replicate, ↓List.cons_append, ↓List.nil_append, List.append_nil, ↓List.getElem?_cons_zero, ↓List.getElem?_cons_succ, ↓List.set_cons_zero, ↓List.set_cons_succ, wipeD, Bool.not_true, Bool.not_false, decide_true, decide_false, beq_self_eq_true, true_and, and_true, Nat.reduceLeDiff, toDs, toDk, toDs_sh, ↓zS_ii, ↓zS_bi, ↓zS_ownO]
  refine ⟨⟨by omega, by omega⟩, ?_⟩
  rw [Int.toNat_natCast]
  refine meets_g hn hm R 0 [] _ _ _ (by show 0 + _ ≤ 500; omega) fun o4 o5 o6 => ?_
  rw [List.nil_append, ← List.range_eq_range']
  simp only [_law_my_meetings_at_5, ↓zHd0, zHp0, ↓zGd0, ↓zGd1, ↓zGd2, ↓zGd3, ↓zGd4, zGp0, startD, startC, ↓List.map_cons, ↓List.map_nil, ↓List.length_cons, ↓List.length_nil, Nat.reduceAdd, Nat.reduceSub, Nat.sub_self, List.replicate, ↓List.cons_append, ↓List.nil_append, List.append_nil, ↓List.getElem?_cons_zero, ↓List.getElem?_cons_succ, ↓List.set_cons_zero, ↓List.set_cons_succ, wipeD, Bool.not_true, Bool.not_false, decide_true, decide_false, beq_self_eq_true, true_and, and_true, Nat.reduceLeDiff, toDs, toDk, toDs_sh, ↓zS_ii, ↓zS_bi, ↓zS_ownO]
  exact hq
theorem str_2 : ∀ (c : Nat) (i : Int) (k : Nat) (o2 o3 o4 : Option SD), k + c ≤ 8 → (∀ o2 o3 o4, W.nx [o0, some (.sh (.lst ((strB (k + c)).map fun s => .str (bT s)))), o2, o3, o4]) →
    forD (gN 2) b__law_my_strings_2 W (ups i c) [o0, some (.sh (.lst ((strB k).map fun s => .str (bT s)))), o2, o3, o4]
  | 0, i, k, o2, o3, o4, _, hN => by
    rw [ups_zero, forD_n]
    exact hN _ _ _
  | c + 1, i, k, o2, o3, o4, hz, hN => by
    have ih := fun o2 o3 o4 => str_2 c (i + 1) (k + 1) o2 o3 o4 (by omega) (by
      intro o2 o3 o4
      have := hN o2 o3 o4
      rwa [show k + (c + 1) = k + 1 + c by omega] at this)
    rw [ups_succ, forD_c]
    generalize forD (gN 2) b__law_my_strings_2 W (ups (i + 1) c) = G at ih ⊢
    simp only [b__law_my_strings_2, ↓zHd0, zHp0, ↓zGd0, ↓zGd1, ↓zGd2, ↓zGd3, ↓zGd4, zGp0, startD, startC, ↓List.map_cons, ↓List.map_nil, ↓List.length_cons, ↓List.length_nil, Nat.reduceAdd, Nat.reduceSub, Nat.sub_self, List.replicate, ↓List.cons_append, ↓List.nil_append, List.append_nil, ↓List.getElem?_cons_zero, ↓List.getElem?_cons_succ, ↓List.set_cons_zero, ↓List.set_cons_succ, wipeD, Bool.not_true, Bool.not_false, decide_true, decide_false, beq_self_eq_true, true_and, and_true, Nat.reduceLeDiff, toDs, toDk, toDs_sh, ↓zS_ii, ↓zS_bi, ↓zS_ownO]
    simp only [_law_my_strings_at_4, ↓zHd0, zHp0, ↓zGd0, ↓zGd1, ↓zGd2, ↓zGd3, ↓zGd4, zGp0, startD, startC, ↓List.map_cons, ↓List.map_nil, ↓List.length_cons, ↓List.length_nil, Nat.reduceAdd, Nat.reduceSub, Nat.sub_self, List.replicate, ↓List.cons_append, ↓List.nil_append, List.append_nil, ↓List.getElem?_cons_zero, ↓List.getElem?_cons_succ, ↓List.set_cons_zero, ↓List.set_cons_succ, wipeD, Bool.not_true, Bool.not_false, decide_true, decide_false, beq_self_eq_true, true_and, and_true, Nat.reduceLeDiff, toDs, toDk, toDs_sh, ↓zS_ii, ↓zS_bi, ↓zS_ownO]
    have l2 : 2 ^ k ≤ 2 ^ 8 := Nat.pow_le_pow_right (by decide) (by omega)
    refine str_1 (strB k) [] o4 (fun s hs => by rw [mem_strB.mp hs]; omega) (by rw [strB_len]; show 0 + _ ≤ 9000; omega) fun o4 => ?_
    rw [List.nil_append]
    simp only [_law_my_strings_at_6, ↓zHd0, zHp0, ↓zGd0, ↓zGd1, ↓zGd2, ↓zGd3, ↓zGd4, zGp0, startD, startC, ↓List.map_cons, ↓List.map_nil, ↓List.length_cons, ↓List.length_nil, Nat.reduceAdd, Nat.reduceSub, Nat.sub_self, List.replicate, ↓List.cons_append, ↓List.nil_append, List.append_nil, ↓List.getElem?_cons_zero, ↓List.getElem?_cons_succ, ↓List.set_cons_zero, ↓List.set_cons_succ, wipeD, Bool.not_true, Bool.not_false, decide_true, decide_false, beq_self_eq_true, true_and, and_true, Nat.reduceLeDiff, toDs, toDk, toDs_sh, ↓zS_ii, ↓zS_bi, ↓zS_ownO]
    exact ih _ _ _
theorem strB_ok {k : Nat} (hk : k ≤ 8) (hq : Q (.lst ((strB k).map fun s => .str (bT s)))) : S__law_my_strings [.int k] Q := by
  refine ⟨rfl, ?_⟩
  show t__law_my_strings _ [some (.sh (.int k)), none, none, none, none]
  simp only [t__law_my_strings, ↓zHd0, zHp0, ↓zGd0, ↓zGd1, ↓zGd2, ↓zGd3, ↓zGd4, zGp0, startD, startC, ↓List.map_cons, ↓List.map_nil, ↓List.length_cons, ↓List.length_nil, Nat.reduceAdd, Nat.reduceSub, Nat.sub_self, List.replicate, ↓List.cons_append, ↓List.nil_append, List.append_nil, ↓List.getElem?_cons_zero, ↓List.getElem?_cons_succ, ↓List.set_cons_zero, ↓List.set_cons_succ, wipeD, Bool.not_true, Bool.not_false, decide_true, decide_false, beq_self_eq_true, true_and, and_true, Nat.reduceLeDiff, toDs, toDk, toDs_sh, ↓zS_ii, ↓zS_bi, ↓zS_ownO]
  simp only [_law_my_strings_at_2, ↓zHd0, zHp0, ↓zGd0, ↓zGd1, ↓zGd2, ↓zGd3, ↓zGd4, zGp0, startD, startC, ↓List.map_cons, ↓List.map_nil, ↓List.length_cons, ↓List.length_nil, Nat.reduceAdd, Nat.reduceSub, Nat.sub_self, List.replicate, ↓List.cons_append, ↓List.nil_append, List.append_nil, ↓List.getElem?_cons_zero, ↓List.getElem?_cons_succ, ↓List.set_cons_zero, ↓List.set_cons_succ, wipeD, Bool.not_true, Bool.not_false, decide_true, decide_false, beq_self_eq_true, true_and, and_true, Nat.reduceLeDiff, toDs, toDk, toDs_sh, ↓zS_ii, ↓zS_bi, ↓zS_ownO]
  refine ⟨⟨by omega, by omega⟩, ?_⟩
  rw [Int.toNat_natCast]
  refine str_2 k 0 0 _ _ _ (by omega) fun o2 o3 o4 => ?_
  rw [Nat.zero_add]
  simp only [_law_my_strings_at_7, ↓zHd0, zHp0, ↓zGd0, ↓zGd1, ↓zGd2, ↓zGd3, ↓zGd4, zGp0, startD, startC, ↓List.map_cons, ↓List.map_nil, ↓List.length_cons, ↓List.length_nil, Nat.reduceAdd, Nat.reduceSub, Nat.sub_self, List.replicate, ↓List.cons_append, ↓List.nil_append, List.append_nil, ↓List.getElem?_cons_zero, ↓List.getElem?_cons_succ, ↓List.set_cons_zero, ↓List.set_cons_succ, wipeD, Bool.not_true, Bool.not_false, decide_true, decide_false, beq_self_eq_true, true_and, and_true, Nat.reduceLeDiff, toDs, toDk, toDs_sh, ↓zS_ii, ↓zS_bi, ↓zS_ownO]
  exact hq
end
section
variable {n m R : Nat} {fs : List Fm} {x : Mt3} {s l : List Bool} {Q : D → Prop} {QO : OD → Prop} {W : DEnds} {v : V} {o0 o1 o2 o3 o4 o5 o6 o7 o8 o9 o10 o11 o12 o13 : Option SD}
theorem perm_inv {α β : Type} {f : α → β} {ds es : List β} (pm : ds.Perm es) : ∀ {l : List α}, es = l.map f → ∃ l' : List α, ds = l'.map f ∧ l'.Perm l := by
  induction pm with
  | nil =>
    intro l e
    cases l with
    | nil => exact ⟨[], rfl, .refl _⟩
    | cons _ _ => cases e
  | cons x _ ih =>
    intro l e
    cases l with
    | nil => cases e
    | cons y l =>
      rw [List.map_cons] at e
      injection e with e1 e2
      obtain ⟨l', h1, h2⟩ := ih e2
      exact ⟨y :: l', by rw [List.map_cons, ← e1, h1], .cons _ h2⟩
  | swap x y t =>
    intro l e
    match l, e with
    | u :: v :: l, e =>
      rw [List.map_cons, List.map_cons] at e
      injection e with e1 e2
      injection e2 with e2 e3
      exact ⟨v :: u :: l, by rw [List.map_cons, List.map_cons, ← e1, ← e2, ← e3], .swap _ _ _⟩
  | trans _ _ ih1 ih2 =>
    intro l e
    obtain ⟨l1, h1, h2⟩ := ih2 e
    obtain ⟨l2, h3, h4⟩ := ih1 h1
    exact ⟨l2, h3, h4.trans h2⟩
theorem par_len (b : Nat → Bool) : ∀ (pl : List Nat) (t : Bool) (k : Nat), (t = decide (k % 2 = 1)) → pl.foldl (fun t p => t ^^ b p) t = decide ((k + (pl.filter b).length) % 2 = 1)
  | [], t, k, h => by rw [List.foldl_nil, List.filter_nil, List.length_nil, Nat.add_zero, h]
  | p :: pl, t, k, h => by
    rw [List.foldl_cons]
    cases q : b p with
    | true =>
      rw [List.filter_cons_of_pos q, List.length_cons, par_len b pl (t ^^ true) (k + 1) (by
        rw [h, Bool.xor_true]
        rcases Nat.mod_two_eq_zero_or_one k with e | e
        · rw [e, show (k + 1) % 2 = 1 by omega]; rfl
        · rw [e, show (k + 1) % 2 = 0 by omega]; rfl)]
      rw [show k + 1 + (pl.filter b).length = k + ((pl.filter b).length + 1) by omega]
    | false =>
      rw [List.filter_cons_of_neg (by rw [q]; decide), Bool.xor_false, par_len b pl t k h]
theorem par_eq (pl : List Nat) (b : Nat → Bool) : par pl b = decide ((pl.filter b).length % 2 = 1) := by
  have := par_len b pl false 0 rfl
  rw [Nat.zero_add] at this
  exact this
theorem at1 (b : Bool) (K : D → Prop) : atC (some (cB b)) K = K (.str (bT [b])) := rfl
theorem toDk_sh : ∀ ks : List (D × D), toDk (ks.map fun z => (z.1, OD.sh z.2)) = ks
  | [] => rfl
  | z :: ks => by
    rw [List.map_cons, toDk, toDk_sh ks]
    rfl
theorem ix01 {k : Nat} (h : k < 2) (hq : Q (.str (bT [decide (k = 1)]))) : oIx (.str (Str.ofString "01")) (.int k) Q := by
  rw [z_ixS]
  refine ⟨by rw [sizeLine_eq]; decide +kernel, ?_⟩
  rcases (by omega : k = 0 ∨ k = 1) with rfl | rfl
  · exact hq
  · exact hq
def bitF (s : List Bool) (p : Nat) : Bool := s.getD p false
theorem wov_1 {acc : List Bool} (h : FsOk fs) (hz : szF fs ≤ 40) (hl : fs.length ≤ 4) (hn : n ≤ 8) (hm : m ≤ 8) (hx : x.1 < 6 ∧ x.2.1 < n ∧ x.2.2 < m) (hs : s.length = szF fs) (ha : acc.length ≤ 900)
    (hN : ∀ o9 o10, W.nx [some (.sh (fsD fs)), some (.sh (.str (bT s))), some (.sh (.int n)), some (.sh (.int m)), o4, some (.sh (.str (bT (acc ++ [par (pls n m x fs 0) (bitF s)])))), some (.sh (.int x.1)), some (.sh (.int x.2.1)), some (.sh (.int x.2.2)), o9, o10]) :
    b__law_my_woven_1 W [some (.sh (fsD fs)), some (.sh (.str (bT s))), some (.sh (.int n)), some (.sh (.int m)), o4, some (.sh (.str (bT acc))), some (.sh (.int x.1)), some (.sh (.int x.2.1)), some (.sh (.int x.2.2)), o9, o10] := by
  simp only [b__law_my_woven_1, ↓zHd0, zHp0, ↓zGd0, ↓zGd1, ↓zGd2, ↓zGd3, ↓zGd4, zGp0, startD, startC, ↓List.map_cons, ↓List.map_nil, ↓List.length_cons, ↓List.length_nil, Nat.reduceAdd, Nat.reduceSub, Nat.sub_self, List.replicate, ↓List.cons_append, ↓List.nil_append, List.append_nil, ↓List.getElem?_cons_zero, ↓List.getElem?_cons_succ, ↓List.set_cons_zero, ↓List.set_cons_succ, wipeD, Bool.not_true, Bool.not_false, decide_true, decide_false, beq_self_eq_true, true_and, and_true, Nat.reduceLeDiff, toDs, toDk, toDs_sh, ↓zS_ii, ↓zS_bi, ↓zS_ownO]
  refine places_ok h hz hl hn hm hx ?_
  have pl := pls_lt n m x fs 0 h
  have pn : ∀ (fs : List Fm) (a : Nat), (pls n m x fs a).length = fs.length := fun fs => by
    induction fs with
    | nil => intro a; rfl
    | cons f fs ih => intro a; rw [pls, List.length_cons, ih, List.length_cons]
  have pn := pn fs 0
  generalize pls n m x fs 0 = P at pl pn hN ⊢
  simp only [↓zHd0, zHp0, ↓zGd0, ↓zGd1, ↓zGd2, ↓zGd3, ↓zGd4, zGp0, startD, startC, ↓List.map_cons, ↓List.map_nil, ↓List.length_cons, ↓List.length_nil, Nat.reduceAdd, Nat.reduceSub, Nat.sub_self, List.replicate, ↓List.cons_append, ↓List.nil_append, List.append_nil, ↓List.getElem?_cons_zero, ↓List.getElem?_cons_succ, ↓List.set_cons_zero, ↓List.set_cons_succ, wipeD, Bool.not_true, Bool.not_false, decide_true, decide_false, beq_self_eq_true, true_and, and_true, Nat.reduceLeDiff, toDs, toDk, toDs_sh, ↓zS_ii, ↓zS_bi, ↓zS_ownO]
  refine ⟨by rw [List.length_map, sizeLine_eq]; omega, ?_⟩
  refine lc_fof (α := Nat) (fun k => .int k) (fun k => .int k) (bitF s) P [] (fun p hp R2 hR2 => ?_) (fun p hp _ R2 hR2 => ?_) ?_
  · have := pl p hp
    simp only [↓zHd0, zHp0, ↓zGd0, ↓zGd1, ↓zGd2, ↓zGd3, ↓zGd4, zGp0, startD, startC, ↓List.map_cons, ↓List.map_nil, ↓List.length_cons, ↓List.length_nil, Nat.reduceAdd, Nat.reduceSub, Nat.sub_self, List.replicate, ↓List.cons_append, ↓List.nil_append, List.append_nil, ↓List.getElem?_cons_zero, ↓List.getElem?_cons_succ, ↓List.set_cons_zero, ↓List.set_cons_succ, wipeD, Bool.not_true, Bool.not_false, decide_true, decide_false, beq_self_eq_true, true_and, and_true, Nat.reduceLeDiff, toDs, toDk, toDs_sh, ↓zS_ii, ↓zS_bi, ↓zS_ownO]
    rw [bT_codes, bT_len, atI_q (v := cB (bitF s p)) (by omega) (by rw [Int.toNat_natCast]; exact getD_code (by omega))]
    refine ⟨by rw [sizeLine_eq]; omega, ?_⟩
    have e1 : Str.ofString "1" = bT [true] := rfl
    rw [at1, e1]
    simp only [↓zHd0, zHp0, ↓zGd0, ↓zGd1, ↓zGd2, ↓zGd3, ↓zGd4, zGp0, startD, startC, ↓List.map_cons, ↓List.map_nil, ↓List.length_cons, ↓List.length_nil, Nat.reduceAdd, Nat.reduceSub, Nat.sub_self, List.replicate, ↓List.cons_append, ↓List.nil_append, List.append_nil, ↓List.getElem?_cons_zero, ↓List.getElem?_cons_succ, ↓List.set_cons_zero, ↓List.set_cons_succ, wipeD, Bool.not_true, Bool.not_false, decide_true, decide_false, beq_self_eq_true, true_and, and_true, Nat.reduceLeDiff, toDs, toDk, toDs_sh, ↓zS_ii, ↓zS_bi, ↓zS_ownO]
    have e2 : decide (bT [bitF s p] = bT [true]) = bitF s p := by
      cases bitF s p with
      | true => exact decide_eq_true rfl
      | false => exact decide_eq_false fun z => by have := bT_inj z; cases this
    rw [e2]
    exact hR2
  · simp only [↓zHd0, zHp0, ↓zGd0, ↓zGd1, ↓zGd2, ↓zGd3, ↓zGd4, zGp0, startD, startC, ↓List.map_cons, ↓List.map_nil, ↓List.length_cons, ↓List.length_nil, Nat.reduceAdd, Nat.reduceSub, Nat.sub_self, List.replicate, ↓List.cons_append, ↓List.nil_append, List.append_nil, ↓List.getElem?_cons_zero, ↓List.getElem?_cons_succ, ↓List.set_cons_zero, ↓List.set_cons_succ, wipeD, Bool.not_true, Bool.not_false, decide_true, decide_false, beq_self_eq_true, true_and, and_true, Nat.reduceLeDiff, toDs, toDk, toDs_sh, ↓zS_ii, ↓zS_bi, ↓zS_ownO]
    exact hR2
  · rw [List.nil_append]
    have hN := hN (some (.sh (.lst ((P.filter (bitF s)).map fun k : Nat => .int k)))) o10
    rw [par_eq] at hN
    simp only [_law_my_woven_at_4, ↓zHd0, zHp0, ↓zGd0, ↓zGd1, ↓zGd2, ↓zGd3, ↓zGd4, zGp0, startD, startC, ↓List.map_cons, ↓List.map_nil, ↓List.length_cons, ↓List.length_nil, Nat.reduceAdd, Nat.reduceSub, Nat.sub_self, List.replicate, ↓List.cons_append, ↓List.nil_append, List.append_nil, ↓List.getElem?_cons_zero, ↓List.getElem?_cons_succ, ↓List.set_cons_zero, ↓List.set_cons_succ, wipeD, Bool.not_true, Bool.not_false, decide_true, decide_false, beq_self_eq_true, true_and, and_true, Nat.reduceLeDiff, toDs, toDk, toDs_sh, ↓zS_ii, ↓zS_bi, ↓zS_ownO]
    refine ⟨by decide, ?_⟩
    rw [List.length_map]
    generalize (P.filter (bitF s)).length = q at hN ⊢
    have e3 : (q : Int) % 2 = ((q % 2 : Nat) : Int) := by omega
    rw [e3, ← z_ixS (Q := fun y => _)]
    refine ix01 (Nat.mod_lt _ (by decide)) ?_
    show oIAdd (.str (bT acc)) (.str (bT [decide (q % 2 = 1)])) _
    simp only [↓zHd0, zHp0, ↓zGd0, ↓zGd1, ↓zGd2, ↓zGd3, ↓zGd4, zGp0, startD, startC, ↓List.map_cons, ↓List.map_nil, ↓List.length_cons, ↓List.length_nil, Nat.reduceAdd, Nat.reduceSub, Nat.sub_self, List.replicate, ↓List.cons_append, ↓List.nil_append, List.append_nil, ↓List.getElem?_cons_zero, ↓List.getElem?_cons_succ, ↓List.set_cons_zero, ↓List.set_cons_succ, wipeD, Bool.not_true, Bool.not_false, decide_true, decide_false, beq_self_eq_true, true_and, and_true, Nat.reduceLeDiff, toDs, toDk, toDs_sh, ↓zS_ii, ↓zS_bi, ↓zS_ownO]
    rw [bT_app, bT_len, bT_len]
    exact ⟨by rw [List.length_singleton, sizeLine_eq]; omega, hN⟩
theorem wov_f (h : FsOk fs) (hz : szF fs ≤ 40) (hl : fs.length ≤ 4) (hn : n ≤ 8) (hm : m ≤ 8) (hs : s.length = szF fs) : ∀ (xs : List Mt3) (acc : List Bool) (o6 o7 o8 o9 o10 : Option SD), (∀ x ∈ xs, x.1 < 6 ∧ x.2.1 < n ∧ x.2.2 < m) → acc.length + xs.length ≤ 900 →
    (∀ o6 o7 o8 o9 o10, W.nx [some (.sh (fsD fs)), some (.sh (.str (bT s))), some (.sh (.int n)), some (.sh (.int m)), o4, some (.sh (.str (bT (acc ++ xs.map fun x => par (pls n m x fs 0) (bitF s))))), o6, o7, o8, o9, o10]) →
    forD (gT 3 (gsCons (gN 6) (gsCons (gN 7) (gsCons (gN 8) gsNil)))) b__law_my_woven_1 W (xs.map mtD) [some (.sh (fsD fs)), some (.sh (.str (bT s))), some (.sh (.int n)), some (.sh (.int m)), o4, some (.sh (.str (bT acc))), o6, o7, o8, o9, o10]
  | [], acc, o6, o7, o8, o9, o10, _, _, hN => by
    rw [List.map_nil, forD_n]
    have := hN o6 o7 o8 o9 o10
    rwa [List.map_nil, List.append_nil] at this
  | x :: xs, acc, o6, o7, o8, o9, o10, hx, hc, hN => by
    rw [List.length_cons] at hc
    have ih := fun o6 o7 o8 o9 o10 => wov_f h hz hl hn hm hs xs (acc ++ [par (pls n m x fs 0) (bitF s)]) o6 o7 o8 o9 o10 (fun y hy => hx y (List.mem_cons_of_mem _ hy)) (by rw [List.length_append, List.length_singleton]; omega) (by
      intro o6 o7 o8 o9 o10
      have := hN o6 o7 o8 o9 o10
      rwa [List.map_cons, List.append_cons] at this)
    rw [List.map_cons, forD_c]
    generalize forD (gT 3 (gsCons (gN 6) (gsCons (gN 7) (gsCons (gN 8) gsNil)))) b__law_my_woven_1 W (xs.map mtD) = G at ih ⊢
    simp only [mtD, ↓zHd0, zHp0, ↓zGd0, ↓zGd1, ↓zGd2, ↓zGd3, ↓zGd4, zGp0, startD, startC, ↓List.map_cons, ↓List.map_nil, ↓List.length_cons, ↓List.length_nil, Nat.reduceAdd, Nat.reduceSub, Nat.sub_self, List.replicate, ↓List.cons_append, ↓List.nil_append, List.append_nil, ↓List.getElem?_cons_zero, ↓List.getElem?_cons_succ, ↓List.set_cons_zero, ↓List.set_cons_succ, wipeD, Bool.not_true, Bool.not_false, decide_true, decide_false, beq_self_eq_true, true_and, and_true, Nat.reduceLeDiff, toDs, toDk, toDs_sh, ↓zS_ii, ↓zS_bi, ↓zS_ownO]
    exact wov_1 h hz hl hn hm (hx x List.mem_cons_self) hs (by omega) fun o9 o10 => ih _ _ _ _ _
theorem woven_ok (sz : Szs n m R fs) (hl : fs.length ≤ 4) (hs : s.length = szF fs) (hq : Q (.str (bT (wvn (pss n m R fs) (bitF s))))) : S__law_my_woven [fsD fs, .str (bT s), .int n, .int m, .int R] Q := by
  have hb : R * (n * m) ≤ 6 * (8 * 8) := Nat.mul_le_mul sz.R6 (Nat.mul_le_mul sz.n8 sz.m8)
  refine ⟨rfl, ?_⟩
  show t__law_my_woven _ [some (.sh (fsD fs)), some (.sh (.str (bT s))), some (.sh (.int n)), some (.sh (.int m)), some (.sh (.int R)), none, none, none, none, none, none]
  simp only [t__law_my_woven, ↓zHd0, zHp0, ↓zGd0, ↓zGd1, ↓zGd2, ↓zGd3, ↓zGd4, zGp0, startD, startC, ↓List.map_cons, ↓List.map_nil, ↓List.length_cons, ↓List.length_nil, Nat.reduceAdd, Nat.reduceSub, Nat.sub_self, List.replicate, ↓List.cons_append, ↓List.nil_append, List.append_nil, ↓List.getElem?_cons_zero, ↓List.getElem?_cons_succ, ↓List.set_cons_zero, ↓List.set_cons_succ, wipeD, Bool.not_true, Bool.not_false, decide_true, decide_false, beq_self_eq_true, true_and, and_true, Nat.reduceLeDiff, toDs, toDk, toDs_sh, ↓zS_ii, ↓zS_bi, ↓zS_ownO]
  simp only [_law_my_woven_at_2, ↓zHd0, zHp0, ↓zGd0, ↓zGd1, ↓zGd2, ↓zGd3, ↓zGd4, zGp0, startD, startC, ↓List.map_cons, ↓List.map_nil, ↓List.length_cons, ↓List.length_nil, Nat.reduceAdd, Nat.reduceSub, Nat.sub_self, List.replicate, ↓List.cons_append, ↓List.nil_append, List.append_nil, ↓List.getElem?_cons_zero, ↓List.getElem?_cons_succ, ↓List.set_cons_zero, ↓List.set_cons_succ, wipeD, Bool.not_true, Bool.not_false, decide_true, decide_false, beq_self_eq_true, true_and, and_true, Nat.reduceLeDiff, toDs, toDk, toDs_sh, ↓zS_ii, ↓zS_bi, ↓zS_ownO]
  refine lmeets_ok sz.n8 sz.m8 sz.R6 ?_
  simp only [↓zHd0, zHp0, ↓zGd0, ↓zGd1, ↓zGd2, ↓zGd3, ↓zGd4, zGp0, startD, startC, ↓List.map_cons, ↓List.map_nil, ↓List.length_cons, ↓List.length_nil, Nat.reduceAdd, Nat.reduceSub, Nat.sub_self, List.replicate, ↓List.cons_append, ↓List.nil_append, List.append_nil, ↓List.getElem?_cons_zero, ↓List.getElem?_cons_succ, ↓List.set_cons_zero, ↓List.set_cons_succ, wipeD, Bool.not_true, Bool.not_false, decide_true, decide_false, beq_self_eq_true, true_and, and_true, Nat.reduceLeDiff, toDs, toDk, toDs_sh, ↓zS_ii, ↓zS_bi, ↓zS_ownO]
  refine wov_f sz.ok sz.sz hl sz.n8 sz.m8 hs (mts n m R) [] _ _ _ _ _ (fun x hx => by
    have h1 := mem_mts.mp hx
    have := sz.R6
    exact ⟨by omega, h1.2.1, h1.2.2⟩) (by rw [mts_len]; show 0 + _ ≤ 900; omega) fun o6 o7 o8 o9 o10 => ?_
  rw [List.nil_append]
  simp only [_law_my_woven_at_5, ↓zHd0, zHp0, ↓zGd0, ↓zGd1, ↓zGd2, ↓zGd3, ↓zGd4, zGp0, startD, startC, ↓List.map_cons, ↓List.map_nil, ↓List.length_cons, ↓List.length_nil, Nat.reduceAdd, Nat.reduceSub, Nat.sub_self, List.replicate, ↓List.cons_append, ↓List.nil_append, List.append_nil, ↓List.getElem?_cons_zero, ↓List.getElem?_cons_succ, ↓List.set_cons_zero, ↓List.set_cons_succ, wipeD, Bool.not_true, Bool.not_false, decide_true, decide_false, beq_self_eq_true, true_and, and_true, Nat.reduceLeDiff, toDs, toDk, toDs_sh, ↓zS_ii, ↓zS_bi, ↓zS_ownO]
  have e : ((mts n m R).map fun x => par (pls n m x fs 0) (bitF s)) = wvn (pss n m R fs) (bitF s) := by
    unfold wvn pss
    rw [List.map_map]
    rfl
  rw [e]
  exact hq
theorem lcross_1 {i j : Nat} {xs : List (Nat × Nat)} (hl : l.length = R * (n * m)) (n0 : 0 < n) (m0 : 0 < m) (R0 : 0 < R) (hn : n ≤ 8) (hm : m ≤ 8) (hR : R ≤ 6) (hi : i < n) (hj : j < m) (hx : (i, j) ∉ xs) (hz : xs.length ≤ 100) (hN : W.nx [some (.sh (.str (bT l))), some (.sh (.int n)), some (.sh (.int m)), o3, some (.ow v (.dic true ((crsD n m R l (xs ++ [(i, j)])).map fun z => (z.1, OD.sh z.2)))), some (.sh (.int i)), some (.sh (.int j))]) :
    b__law_my_crossings_1 W [some (.sh (.str (bT l))), some (.sh (.int n)), some (.sh (.int m)), o3, some (.ow v (.dic true ((crsD n m R l xs).map fun z => (z.1, OD.sh z.2)))), some (.sh (.int i)), some (.sh (.int j))] := by
  simp only [b__law_my_crossings_1, ↓zHd0, zHp0, ↓zGd0, ↓zGd1, ↓zGd2, ↓zGd3, ↓zGd4, zGp0, startD, startC, ↓List.map_cons, ↓List.map_nil, ↓List.length_cons, ↓List.length_nil, Nat.reduceAdd, Nat.reduceSub, Nat.sub_self, List.replicate, ↓List.cons_append, ↓List.nil_append, List.append_nil, ↓List.getElem?_cons_zero, ↓List.getElem?_cons_succ, ↓List.set_cons_zero, ↓List.set_cons_succ, wipeD, Bool.not_true, Bool.not_false, decide_true, decide_false, beq_self_eq_true, true_and, and_true, Nat.reduceLeDiff, toDs, toDk, toDs_sh, ↓zS_ii, ↓zS_bi, ↓zS_ownO]
  have hb : n * m ≤ 8 * 8 := Nat.mul_le_mul hn hm
  have pos : 0 < n * m := Nat.mul_pos n0 m0
  have p2 : i * m + j < n * m := ix_bd hj hi
  have e1 : (i : Int) * m + j = ((i * m + j : Nat) : Int) := by rw [Int.natCast_add, Int.natCast_mul]
  have e2 : (n : Int) * m = ((n * m : Nat) : Int) := (Int.natCast_mul n m).symm
  rw [e1, e2, sl3_col hl p2 R0, bT_len, colT_len]
  refine ⟨.inl (.inl ⟨by omega, by omega⟩), .inl (.inl ⟨by omega, by omega⟩), by omega, by rw [sizeLine_eq]; omega, ⟨rfl, by unfold crsD; rw [List.length_map, List.length_map, sizeLine_eq]; omega⟩, ?_⟩
  have e3 : putO ((crsD n m R l xs).map fun z => (z.1, OD.sh z.2)) (key2 (i, j)) (.sh (.str (bT (colT (n * m) R (i * m + j) l)))) = (crsD n m R l (xs ++ [(i, j)])).map fun z => (z.1, OD.sh z.2) := by
    have hany : (((crsD n m R l xs).map fun z => (z.1, OD.sh z.2)).any fun z => keqD z.1 (key2 (i, j))) = false := by
      unfold crsD
      rw [List.map_map, List.any_map, List.any_eq_false]
      intro x hx'
      show ¬ (keqD (key2 x) (key2 (i, j)) = true)
      rw [key2_eq, decide_eq_false (fun z => hx (by rw [← z]; exact hx'))]
      decide
    unfold putO
    rw [hany, if_neg (by decide)]
    unfold crsD
    rw [List.map_append, List.map_append]
    rfl
  rw [show D.tup [.int (i : Nat), .int (j : Nat)] = key2 (i, j) from rfl, e3]
  exact hN
theorem lcross_f {i : Nat} (hl : l.length = R * (n * m)) (n0 : 0 < n) (m0 : 0 < m) (R0 : 0 < R) (hn : n ≤ 8) (hm : m ≤ 8) (hR : R ≤ 6) (hi : i < n) : ∀ (c j : Nat) (xs : List (Nat × Nat)) (o6 : Option SD), j + c ≤ m → (∀ k, j ≤ k → (i, k) ∉ xs) → xs.length + c ≤ 100 →
    (∀ o6, W.nx [some (.sh (.str (bT l))), some (.sh (.int n)), some (.sh (.int m)), o3, some (.ow v (.dic true ((crsD n m R l (xs ++ (List.range' j c).map fun j => (i, j))).map fun z => (z.1, OD.sh z.2)))), some (.sh (.int i)), o6]) →
    forD (gN 6) b__law_my_crossings_1 W (ups j c) [some (.sh (.str (bT l))), some (.sh (.int n)), some (.sh (.int m)), o3, some (.ow v (.dic true ((crsD n m R l xs).map fun z => (z.1, OD.sh z.2)))), some (.sh (.int i)), o6]
  | 0, j, xs, o6, _, _, _, hN => by
    rw [ups_zero, forD_n]
    have := hN o6
    rwa [List.range'_zero, List.map_nil, List.append_nil] at this
  | c + 1, j, xs, o6, hj, hx, hz, hN => by
    have ih := fun o6 => lcross_f hl n0 m0 R0 hn hm hR hi c (j + 1) (xs ++ [(i, j)]) o6 (by omega) (fun k hk z => by
      rcases List.mem_append.mp z with z | z
      · exact hx k (by omega) z
      · have := congrArg Prod.snd (List.mem_singleton.mp z)
        dsimp only at this
        omega) (by rw [List.length_append, List.length_singleton]; omega) (by
      intro o6
      have := hN o6
      rwa [List.range'_succ, List.map_cons, List.append_cons] at this)
    rw [Int.natCast_succ] at ih
    rw [ups_succ, forD_c]
    generalize forD (gN 6) b__law_my_crossings_1 W (ups ((j : Int) + 1) c) = G at ih ⊢
    simp only [↓zHd0, zHp0, ↓zGd0, ↓zGd1, ↓zGd2, ↓zGd3, ↓zGd4, zGp0, startD, startC, ↓List.map_cons, ↓List.map_nil, ↓List.length_cons, ↓List.length_nil, Nat.reduceAdd, Nat.reduceSub, Nat.sub_self, List.replicate, ↓List.cons_append, ↓List.nil_append, List.append_nil, ↓List.getElem?_cons_zero, ↓List.getElem?_cons_succ, ↓List.set_cons_zero, ↓List.set_cons_succ, wipeD, Bool.not_true, Bool.not_false, decide_true, decide_false, beq_self_eq_true, true_and, and_true, Nat.reduceLeDiff, toDs, toDk, toDs_sh, ↓zS_ii, ↓zS_bi, ↓zS_ownO]
    exact lcross_1 hl n0 m0 R0 hn hm hR hi (by omega) (hx j (Nat.le_refl _)) (by omega) (ih _)
theorem lcross_g (hl : l.length = R * (n * m)) (n0 : 0 < n) (m0 : 0 < m) (R0 : 0 < R) (hn : n ≤ 8) (hm : m ≤ 8) (hR : R ≤ 6) : ∀ (c i : Nat) (xs : List (Nat × Nat)) (o5 o6 : Option SD), i + c ≤ n → (∀ k j, i ≤ k → (k, j) ∉ xs) → xs.length + c * m ≤ 100 →
    (∀ o5 o6, W.nx [some (.sh (.str (bT l))), some (.sh (.int n)), some (.sh (.int m)), o3, some (.ow v (.dic true ((crsD n m R l (xs ++ (List.range' i c).flatMap fun i => (List.range m).map fun j => (i, j))).map fun z => (z.1, OD.sh z.2)))), o5, o6]) →
    forD (gN 5) b__law_my_crossings_2 W (ups i c) [some (.sh (.str (bT l))), some (.sh (.int n)), some (.sh (.int m)), o3, some (.ow v (.dic true ((crsD n m R l xs).map fun z => (z.1, OD.sh z.2)))), o5, o6]
  | 0, i, xs, o5, o6, _, _, _, hN => by
    rw [ups_zero, forD_n]
    have := hN o5 o6
    rwa [List.range'_zero, List.flatMap_nil, List.append_nil] at this
  | c + 1, i, xs, o5, o6, hi, hx, hz, hN => by
    rw [Nat.add_mul, Nat.one_mul] at hz
    have ih := fun o5 o6 => lcross_g hl n0 m0 R0 hn hm hR c (i + 1) (xs ++ (List.range m).map fun j => (i, j)) o5 o6 (by omega) (fun k j hk z => by
      rcases List.mem_append.mp z with z | z
      · exact hx k j (by omega) z
      · obtain ⟨j', _, e⟩ := List.mem_map.mp z
        have := congrArg Prod.fst e
        dsimp only at this
        omega) (by rw [List.length_append, List.length_map, List.length_range]; omega) (by
      intro o5 o6
      have := hN o5 o6
      rwa [List.range'_succ, List.flatMap_cons, ← List.append_assoc] at this)
    rw [Int.natCast_succ] at ih
    rw [ups_succ, forD_c]
    generalize forD (gN 5) b__law_my_crossings_2 W (ups ((i : Int) + 1) c) = G at ih ⊢
    simp only [b__law_my_crossings_2, ↓zHd0, zHp0, ↓zGd0, ↓zGd1, ↓zGd2, ↓zGd3, ↓zGd4, zGp0, startD, startC, ↓List.map_cons, ↓List.map_nil, ↓List.length_cons, ↓List.length_nil, Nat.reduceAdd, Nat.reduceSub, Nat.sub_self, List.replicate, ↓List.cons_append, ↓List.nil_append, List.append_nil, ↓List.getElem?_cons_zero, ↓List.getElem?_cons_succ, ↓List.set_cons_zero, ↓List.set_cons_succ, wipeD, Bool.not_true, Bool.not_false, decide_true, decide_false, beq_self_eq_true, true_and, and_true, Nat.reduceLeDiff, toDs, toDk, toDs_sh, ↓zS_ii, ↓zS_bi, ↓zS_ownO]
    refine ⟨⟨by omega, by omega⟩, ?_⟩
    rw [Int.toNat_natCast]
    refine lcross_f hl n0 m0 R0 hn hm hR (by omega) m 0 xs _ (by omega) (fun k _ => hx i k (Nat.le_refl _)) (by omega) fun o6 => ?_
    rw [← List.range_eq_range']
    exact ih _ _
theorem lcross_ok (hl : l.length = R * (n * m)) (n0 : 0 < n) (m0 : 0 < m) (R0 : 0 < R) (hn : n ≤ 8) (hm : m ≤ 8) (hR : R ≤ 6) (hq : Q (.dic (crsD n m R l (prs n m)))) : S__law_my_crossings [.str (bT l), .int n, .int m, .int R] Q := by
  have hb : n * m ≤ 8 * 8 := Nat.mul_le_mul hn hm
  refine ⟨rfl, ?_⟩
  show t__law_my_crossings _ [some (.sh (.str (bT l))), some (.sh (.int n)), some (.sh (.int m)), some (.sh (.int R)), none, none, none]
  simp only [t__law_my_crossings, ↓zHd0, zHp0, ↓zGd0, ↓zGd1, ↓zGd2, ↓zGd3, ↓zGd4, zGp0, startD, startC, ↓List.map_cons, ↓List.map_nil, ↓List.length_cons, ↓List.length_nil, Nat.reduceAdd, Nat.reduceSub, Nat.sub_self, List.replicate, ↓List.cons_append, ↓List.nil_append, List.append_nil, ↓List.getElem?_cons_zero, ↓List.getElem?_cons_succ, ↓List.set_cons_zero, ↓List.set_cons_succ, wipeD, Bool.not_true, Bool.not_false, decide_true, decide_false, beq_self_eq_true, true_and, and_true, Nat.reduceLeDiff, toDs, toDk, toDs_sh, ↓zS_ii, ↓zS_bi, ↓zS_ownO]
  intro v
  simp only [_law_my_crossings_at_2, ↓zHd0, zHp0, ↓zGd0, ↓zGd1, ↓zGd2, ↓zGd3, ↓zGd4, zGp0, startD, startC, ↓List.map_cons, ↓List.map_nil, ↓List.length_cons, ↓List.length_nil, Nat.reduceAdd, Nat.reduceSub, Nat.sub_self, List.replicate, ↓List.cons_append, ↓List.nil_append, List.append_nil, ↓List.getElem?_cons_zero, ↓List.getElem?_cons_succ, ↓List.set_cons_zero, ↓List.set_cons_succ, wipeD, Bool.not_true, Bool.not_false, decide_true, decide_false, beq_self_eq_true, true_and, and_true, Nat.reduceLeDiff, toDs, toDk, toDs_sh, ↓zS_ii, ↓zS_bi, ↓zS_ownO]
  refine ⟨⟨by omega, by omega⟩, ?_⟩
  rw [Int.toNat_natCast]
  refine lcross_g hl n0 m0 R0 hn hm hR n 0 [] _ _ (by omega) (fun _ _ _ z => nomatch z) (by show 0 + _ ≤ 100; omega) fun o5 o6 => ?_
  rw [List.nil_append, ← List.range_eq_range']
  simp only [_law_my_crossings_at_5, ↓zHd0, zHp0, ↓zGd0, ↓zGd1, ↓zGd2, ↓zGd3, ↓zGd4, zGp0, startD, startC, ↓List.map_cons, ↓List.map_nil, ↓List.length_cons, ↓List.length_nil, Nat.reduceAdd, Nat.reduceSub, Nat.sub_self, List.replicate, ↓List.cons_append, ↓List.nil_append, List.append_nil, ↓List.getElem?_cons_zero, ↓List.getElem?_cons_succ, ↓List.set_cons_zero, ↓List.set_cons_succ, wipeD, Bool.not_true, Bool.not_false, decide_true, decide_false, beq_self_eq_true, true_and, and_true, Nat.reduceLeDiff, toDs, toDk, toDs_sh, ↓zS_ii, ↓zS_bi, ↓zS_ownO]
  rw [toDk_sh]
  exact hq
theorem prTs_crs : ∀ ys : List (Nat × Nat), prTs (ys.map fun z => .tup [key2 z, .str (bT (colT (n * m) R (z.1 * m + z.2) l))]) = some (crsD n m R l ys)
  | [] => rfl
  | y :: ys => by
    rw [List.map_cons, prTs, prTs_crs ys]
    rfl
theorem shuf_ok {xs : List (Nat × Nat)} (hz : xs.length ≤ 100) (hne : xs ≠ []) (hnd : xs.Nodup) (hq : ∀ ys : List (Nat × Nat), ys.Perm xs → QO (.dic true ((crsD n m R l ys).map fun z => (z.1, OD.sh z.2)))) : S__law_my_shuffled [.bag, .dic (crsD n m R l xs)] QO := by
  refine ⟨rfl, ?_⟩
  show t__law_my_shuffled _ [some (.sh .bag), some (.sh (.dic (crsD n m R l xs)))]
  simp only [t__law_my_shuffled, ↓zHd0, zHp0, ↓zGd0, ↓zGd1, ↓zGd2, ↓zGd3, ↓zGd4, zGp0, startD, startC, ↓List.map_cons, ↓List.map_nil, ↓List.length_cons, ↓List.length_nil, Nat.reduceAdd, Nat.reduceSub, Nat.sub_self, List.replicate, ↓List.cons_append, ↓List.nil_append, List.append_nil, ↓List.getElem?_cons_zero, ↓List.getElem?_cons_succ, ↓List.set_cons_zero, ↓List.set_cons_succ, wipeD, Bool.not_true, Bool.not_false, decide_true, decide_false, beq_self_eq_true, true_and, and_true, Nat.reduceLeDiff, toDs, toDk, toDs_sh, ↓zS_ii, ↓zS_bi, ↓zS_ownO]
  have e0 : (crsD n m R l xs).map (fun z => D.tup [z.1, z.2]) = xs.map fun z => .tup [key2 z, .str (bT (colT (n * m) R (z.1 * m + z.2) l))] := by
    unfold crsD
    rw [List.map_map]
    rfl
  refine ⟨?_, ?_⟩
  · unfold keysT crsD
    rw [Bool.and_eq_true, List.all_map, List.all_eq_true]
    refine ⟨?_, fun x _ => rfl⟩
    cases xs with
    | nil => exact absurd rfl hne
    | cons x xs => rfl
  · rw [e0]
    refine mixedd_ok (by rw [List.length_map]; omega) fun l' hp => ?_
    obtain ⟨ys, rfl, hy⟩ := perm_inv hp rfl
    refine prsQ_of (prTs_crs ys) ?_ (hq ys hy)
    unfold crsD
    refine List.pairwise_map.mpr ((hy.nodup_iff.mpr hnd).imp fun {a b} h => ?_)
    show keqD (key2 a) (key2 b) = false
    rw [key2_eq, decide_eq_false h]
end
section
variable {n m R : Nat} {fs : List Fm}
theorem wvn_len {b : Nat → Bool} : (wvn (pss n m R fs) b).length = R * (n * m) := by
  unfold wvn
  rw [List.length_map, pss_len]
end
section
variable {n m R : Nat} {fs : List Fm} {l : List Bool} {Q : D → Prop} {QO : OD → Prop} {W : DEnds} {v : V} {o0 o1 o2 o3 o4 o5 o6 o7 o8 o9 o10 o11 o12 o13 : Option SD}
theorem draw_bT {i : Nat} {te : DE} {δ : DS} {P : List D → Prop} (ht : ∀ (k : Int) (K : D → Prop), (∀ b : Bool, K (.str (bT [b]))) → te (δ.set i (some (.sh (.int k)))) K) : ∀ (c : Nat) (a : Int) (acc : List Bool), (∀ bs : List Bool, bs.length = acc.length + c → P (bs.map fun b => .str (bT [b]))) → lcD (gN i) dYes te δ P (ups a c) (acc.map fun b => .str (bT [b]))
  | 0, a, acc, h => by
    rw [ups_zero]
    exact h acc rfl
  | c + 1, a, acc, h => by
    rw [ups_succ]
    show te (δ.set i (some (.sh (.int a)))) fun y => lcD (gN i) dYes te δ P (ups (a + 1) c) ((acc.map fun b => D.str (bT [b])) ++ [y])
    refine ht a _ fun b => ?_
    have := draw_bT ht c (a + 1) (acc ++ [b]) fun bs hb => h bs (by rw [List.length_append, List.length_singleton] at hb; omega)
    rw [List.map_append] at this
    exact this
theorem nodupK_map {α : Type} {k v : α → D} : ∀ {xs : List α}, (∀ x ∈ xs, keqD (k x) (k x) = true) → xs.Pairwise (fun x y => keqD (k x) (k y) = false) → nodupK (xs.map fun x => (k x, v x)) = true
  | [], _, _ => rfl
  | x :: xs, h, hp => by
    have hp := List.pairwise_cons.mp hp
    rw [List.map_cons, nodupK, h x List.mem_cons_self, nodupK_map (fun y hy => h y (List.mem_cons_of_mem _ hy)) hp.2]
    have : ((xs.map fun x => (k x, v x)).any fun z => keqD (k x) z.1) = false := by
      rw [List.any_eq_false]
      intro z hz
      obtain ⟨y, hy, rfl⟩ := List.mem_map.mp hz
      show ¬ keqD (k x) (k y) = true
      rw [hp.1 y hy]
      decide
    rw [this]
    rfl
theorem okGk_map {α : Type} {k v : α → D} : ∀ {xs : List α}, (∀ x ∈ xs, okG (k x) = true ∧ okG (v x) = true) → okGk (xs.map fun x => (k x, v x)) = true
  | [], _ => rfl
  | x :: xs, h => by
    have a := h x List.mem_cons_self
    rw [List.map_cons, okGk, a.1, a.2, okGk_map fun y hy => h y (List.mem_cons_of_mem _ hy)]
    rfl
theorem txs_fine : ∀ ts : List Str, (∀ t ∈ ts, PyData.strOk t = true) → fineL (ts.map D.str) = true ∧ depL (ts.map D.str) ≤ 0
  | [], _ => by rw [List.map_nil, fineL, depL]; exact ⟨rfl, Nat.le_refl _⟩
  | t :: ts, h => by
    have i := txs_fine ts fun y hy => h y (List.mem_cons_of_mem _ hy)
    rw [List.map_cons, fineL, depL, i.1]
    have : D.fine (.str t) = true := h t List.mem_cons_self
    have d0 : D.dep (.str t) = 0 := rfl
    rw [this]
    exact ⟨rfl, by omega⟩
theorem bT_plain (l : List Bool) : DL.plain (.str (bT l)) = true := by
  unfold DL.plain
  rw [show D.fine (.str (bT l)) = true from bT_ok l]
  rfl
theorem rd_ok (t : Nat) : PyData.strOk (rdN t) = true := by
  match t with
  | 0 => decide +kernel
  | 1 => decide +kernel
  | 2 => decide +kernel
  | 3 => decide +kernel
  | t + 4 => exact (by decide +kernel : PyData.strOk (Str.ofString "moons") = true)
theorem small_fine {a : Nat} (h : a ≤ 1000) : D.fine (.int (a : Int)) = true := by
  show decide ((a : Int).natAbs.log2 < 1920) = true
  rw [Int.natAbs_natCast]
  exact decide_eq_true (log_lt (k := 10) (by show a < 1024; omega) (by decide))
theorem fs_fine : ∀ fs : List Fm, szF fs ≤ 900 → fineL (fs.map fmD) = true ∧ depL (fs.map fmD) ≤ 1
  | [], _ => by rw [List.map_nil, fineL, depL]; exact ⟨rfl, by decide⟩
  | f :: fs, h => by
    rw [szF] at h
    obtain ⟨i1, i2⟩ := fs_fine fs (by omega)
    have e1 : D.fine (fmD f) = true := by
      unfold fmD
      rw [D.fine, fineL, fineL, fineL, fineL, small_fine (by omega), small_fine (by omega), show D.fine (.str (rdN f.1)) = true from rd_ok f.1]
      rfl
    have e2 : D.dep (fmD f) = 1 := rfl
    rw [List.map_cons, fineL, depL, e1, i1, e2]
    exact ⟨rfl, by omega⟩
theorem rd_len (t : Nat) : (rdN t).length ≤ 6 := by
  match t with
  | 0 => decide +kernel
  | 1 => decide +kernel
  | 2 => decide +kernel
  | 3 => decide +kernel
  | t + 4 => exact (by decide +kernel : (Str.ofString "moons").length ≤ 6)
theorem key2_plain {x : Nat × Nat} (h1 : x.1 ≤ 1000) (h2 : x.2 ≤ 1000) : DL.plain (key2 x) = true := by
  unfold DL.plain
  have : D.fine (key2 x) = true := by
    unfold key2
    rw [D.fine, fineL, fineL, fineL, small_fine h1, small_fine h2]
    rfl
  rw [this]
  rfl
theorem crs_ok (xs : List (Nat × Nat)) (hx : ∀ x ∈ xs, x.1 ≤ 8 ∧ x.2 ≤ 8) (hz : xs.length ≤ 64) (hnd : xs.Nodup) (hR : R ≤ 6) : DicOk (crsD n m R l xs) := by
  refine ⟨?_, ?_, ?_, ⟨?_, ?_, ?_, .inr ?_⟩⟩
  · unfold valsP crsD
    rw [List.all_map, List.all_eq_true]
    exact fun x _ => bT_plain _
  · have : (crsD n m R l xs).all (fun z => (dkT z.1).isSome) = true := by
      unfold crsD
      rw [List.all_map, List.all_eq_true]
      intro x _
      rfl
    unfold kfit
    rw [this]
    simp
  · refine eqG_refl _ ?_
    rw [okG]
    unfold crsD
    rw [nodupK_map (fun x _ => by rw [key2_eq]; exact decide_eq_true rfl) (hnd.imp fun {x y} h => by rw [key2_eq, decide_eq_false h]), okGk_map fun x _ => ⟨by rfl, by rfl⟩]
    rfl
  · intro z hz2
    obtain ⟨x, _, rfl⟩ := List.mem_map.mp hz2
    exact ⟨bT_plain _, rfl⟩
  · intro z hz2
    obtain ⟨x, hx2, rfl⟩ := List.mem_map.mp hz2
    have := hx x hx2
    exact ⟨key2_plain (by omega) (by omega), rfl⟩
  · have key : ∀ ys : List (Nat × Nat), wtK (crsD n m R l ys) ≤ 5000 * ys.length := fun ys => by
      induction ys with
      | nil => exact Nat.le_refl _
      | cons x ys ih =>
        have e : wtK (crsD n m R l (x :: ys)) = (D.wt (key2 x) + D.wt (.str (bT (colT (n * m) R (x.1 * m + x.2) l))) + 4) + wtK (crsD n m R l ys) := rfl
        have e1 : D.wt (key2 x) = 4008 := rfl
        have e2 : D.wt (.str (bT (colT (n * m) R (x.1 * m + x.2) l))) = 10 * R + 2 := by
          show 10 * (bT _).length + 2 = _
          rw [bT_len, colT_len]
        rw [e, e1, e2, List.length_cons]
        omega
    have := key xs
    omega
  · unfold crsD
    rw [List.all_map, List.all_eq_true]
    intro x _
    rfl
end
theorem rOkL_of : ∀ {xs : List D}, (∀ x ∈ xs, rOk x) → rOkL xs
  | [], _ => by rw [rOkL]; trivial
  | y :: ys, h => by
    rw [rOkL]
    exact ⟨h y List.mem_cons_self, rOkL_of fun x hx => h x (List.mem_cons_of_mem _ hx)⟩
mutual
def rwt : D → Nat
  | .dic ks => wtK ks + 2
  | .lst xs => rwtL xs + 4
  | .tup xs => rwtL xs + 4
  | .non => 4
  | .bl _ => 5
  | .int _ => 2000
  | .str x => 10 * x.length + 2
  | .ktup _ => 4
  | .obj _ _ => 4
  | .bag => 4
def rwtL : List D → Nat
  | [] => 0
  | x :: xs => rwt x + 2 + rwtL xs
end
theorem kpy_up {ks : List (D × D)} (h : RepK ks) : (kpy ks).shown.length ≤ wtK ks + 2 := by
  have a := shownKv_len h.vp h.kp
  unfold kpy
  rw [PyData.shown]
  unfold dictText
  rw [strLen_append, strLen_append]
  have c := join_up (PyData.shownKv (ks.map fun z => (z.1.py, z.2.py)))
  have e1 : (("{" : String) : Str).length = 1 := rfl
  have e2 : (("}" : String) : Str).length = 1 := rfl
  omega
mutual
theorem rpy_len : ∀ d : D, rOk d → (rpy d).shown.length ≤ rwt d
  | .non, _ => by rw [rpy, rwt]; decide +kernel
  | .bl b, _ => by rw [rpy, rwt]; cases b <;> decide +kernel
  | .int i, h => by
    rw [rOk] at h
    rw [rpy, rwt, PyData.shown]
    exact int_text_len (by simpa [D.fine] using h)
  | .str x, h => by
    rw [rOk] at h
    have := py_len (.str x) h.1
    rw [D.py, D.wt] at this
    rw [rpy, rwt]
    exact this
  | .lst xs, h => by
    rw [rOk] at h
    have := rpyL_len xs h
    have h2 := listText_up (PyData.shownAll (rpyL xs))
    rw [rpy, PyData.shown, rwt]
    omega
  | .tup xs, h => by
    rw [rOk] at h
    have := rpyL_len xs h
    have h2 := tupleText_up (PyData.shownAll (rpyL xs))
    rw [rpy, PyData.shown, rwt]
    omega
  | .dic ks, h => by
    rw [rOk] at h
    rw [rpy, rwt]
    exact kpy_up h
  | .obj _ _, h => by rw [rOk] at h; exact h.elim
  | .bag, h => by rw [rOk] at h; exact h.elim
  | .ktup _, h => by rw [rOk] at h; exact h.elim
theorem rpyL_len : ∀ ds : List D, rOkL ds → ((PyData.shownAll (rpyL ds)).map fun t => t.length + 2).sum ≤ rwtL ds
  | [], _ => by simp [rpyL, PyData.shownAll]
  | x :: xs, h => by
    rw [rOkL] at h
    have h1 := rpy_len x h.1
    have h2 := rpyL_len xs h.2
    rw [rpyL, PyData.shownAll, rwtL, List.map_cons, List.sum_cons]
    omega
end
structure Mb (k m : Nat) (d : D) : Prop where
  ok : rOk d
  dp : (rpy d).depth ≤ k
  wt : rwt d ≤ m
theorem Mb.mono {k m k' m' : Nat} {d : D} (h : Mb k m d) (a : k ≤ k') (b : m ≤ m') : Mb k' m' d := ⟨h.ok, Nat.le_trans h.dp a, Nat.le_trans h.wt b⟩
theorem rpyL_dep {k : Nat} : ∀ {xs : List D}, (∀ x ∈ xs, (rpy x).depth ≤ k) → PyData.depthAll (rpyL xs) ≤ k
  | [], _ => by rw [rpyL, PyData.depthAll]; exact Nat.zero_le _
  | x :: xs, h => by
    rw [rpyL, PyData.depthAll]
    exact Nat.max_le.mpr ⟨h x List.mem_cons_self, rpyL_dep fun y hy => h y (List.mem_cons_of_mem _ hy)⟩
theorem rwtL_le {m : Nat} : ∀ {xs : List D}, (∀ x ∈ xs, rwt x ≤ m) → rwtL xs ≤ xs.length * (m + 2)
  | [], _ => by rw [rwtL]; exact Nat.zero_le _
  | x :: xs, h => by
    have a := h x List.mem_cons_self
    have b := rwtL_le (m := m) fun y hy => h y (List.mem_cons_of_mem _ hy)
    rw [rwtL, List.length_cons, Nat.succ_mul]
    omega
theorem mb_lst {k m : Nat} {xs : List D} (n : Nat) (h : ∀ x ∈ xs, Mb k m x) (hl : xs.length ≤ n) : Mb (k + 1) (n * (m + 2) + 4) (.lst xs) := by
  refine ⟨by rw [rOk]; exact rOkL_of fun x hx => (h x hx).ok, ?_, ?_⟩
  · have := rpyL_dep (k := k) fun x hx => (h x hx).dp
    rw [rpy, PyData.depth]; omega
  · have a := rwtL_le (m := m) fun x hx => (h x hx).wt
    have b := Nat.mul_le_mul_right (m + 2) hl
    rw [rwt]; omega
mutual
theorem fine_rok : ∀ d : D, d.fine = true → d.wt ≤ 15000000 → rOk d ∧ (rpy d).depth ≤ d.dep + 1 ∧ rwt d ≤ d.wt
  | .non, _, _ => by rw [rOk, rpy, rwt, PyData.depth]; exact ⟨trivial, by omega, by rw [D.wt]; omega⟩
  | .bl _, _, _ => by rw [rOk, rpy, rwt, PyData.depth]; exact ⟨trivial, by omega, by rw [D.wt]; omega⟩
  | .int _, h, _ => by rw [rOk, rpy, rwt, PyData.depth]; exact ⟨h, by omega, by rw [D.wt]; omega⟩
  | .str _, h, hw => by rw [rOk, rpy, rwt, PyData.depth]; exact ⟨⟨h, hw⟩, by omega, by rw [D.wt]; omega⟩
  | .lst xs, h, hw => by
    rw [D.fine] at h
    rw [D.wt] at hw
    obtain ⟨h1, h2, h3⟩ := fine_rokL xs h (by omega)
    rw [rOk, rpy, rwt, PyData.depth, D.dep, D.wt]
    exact ⟨h1, by omega, by omega⟩
  | .tup xs, h, hw => by
    rw [D.fine] at h
    rw [D.wt] at hw
    obtain ⟨h1, h2, h3⟩ := fine_rokL xs h (by omega)
    rw [rOk, rpy, rwt, PyData.depth, D.dep, D.wt]
    exact ⟨h1, by omega, by omega⟩
  | .dic _, h, _ => by cases h
  | .obj _ _, h, _ => by cases h
  | .bag, h, _ => by cases h
  | .ktup _, h, _ => by cases h
theorem fine_rokL : ∀ xs : List D, fineL xs = true → wtL xs ≤ 15000000 → rOkL xs ∧ PyData.depthAll (rpyL xs) ≤ depL xs + 1 ∧ rwtL xs ≤ wtL xs
  | [], _, _ => by rw [rOkL, rpyL, rwtL, PyData.depthAll]; exact ⟨trivial, Nat.zero_le _, Nat.zero_le _⟩
  | x :: xs, h, hw => by
    rw [fineL, Bool.and_eq_true] at h
    rw [wtL] at hw
    obtain ⟨h1, h2, h3⟩ := fine_rok x h.1 (by omega)
    obtain ⟨h4, h5, h6⟩ := fine_rokL xs h.2 (by omega)
    rw [rOkL, rpyL, rwtL, PyData.depthAll, depL, wtL]
    exact ⟨⟨h1, h4⟩, by omega, by omega⟩
end
section
abbrev Row := Nat × Bool × Nat
def sat (N : Nat) (x : Nat → Bool) (r : Row) : Prop := xb (fun c => x c && r.1.testBit c) N = r.2.1
def xr (a b : Row) : Row := (a.1 ^^^ b.1, (a.2.1 ^^ b.2.1), a.2.2 ^^^ b.2.2)
theorem sat_xr {N : Nat} {x : Nat → Bool} {a b : Row} (h : sat N x b) : sat N x (xr a b) ↔ sat N x a := by
  unfold sat xr at *
  have e : xb (fun c => x c && (a.1 ^^^ b.1).testBit c) N = (xb (fun c => x c && a.1.testBit c) N ^^ xb (fun c => x c && b.1.testBit c) N) := by
    rw [← xb_add]
    refine xb_congr N fun c _ => ?_
    rw [Nat.testBit_xor]
    cases x c <;> simp
  show xb (fun c => x c && (a.1 ^^^ b.1).testBit c) N = (a.2.1 ^^ b.2.1) ↔ _
  rw [e, h]
  cases xb (fun c => x c && a.1.testBit c) N <;> cases a.2.1 <;> cases b.2.1 <;> simp
def SolR (N : Nat) (rows : List Row) (x : Nat → Bool) : Prop := ∀ r ∈ rows, sat N x r
/-- rows with leading bits that are unlike -/
structure Ech (N : Nat) (rows : List Row) : Prop where
  pos : ∀ r ∈ rows, 0 < r.1
  lt : ∀ r ∈ rows, r.1 < 2 ^ N
  dis : rows.Pairwise fun a b => a.1.log2 ≠ b.1.log2
/-- cur is what is left of a sum: the same wish to what solves the rows; its own marks stay -/
structure Lft (N : Nat) (rows : List Row) (o c : Row) : Prop where
  eqv : ∀ x, SolR N rows x → (sat N x c ↔ sat N x o)
  own : ∀ k, (∀ r ∈ rows, r.2.2.testBit k = false) → c.2.2.testBit k = o.2.2.testBit k
theorem Lft.refl {N : Nat} {rows : List Row} (o : Row) : Lft N rows o o := ⟨fun _ _ => Iff.rfl, fun _ _ => rfl⟩
theorem Lft.step {N : Nat} {rows : List Row} {o c r : Row} (h : Lft N rows o c) (hr : r ∈ rows) : Lft N rows o (xr c r) := by
  refine ⟨fun x hx => (sat_xr (hx r hr)).trans (h.eqv x hx), fun k hk => ?_⟩
  show (c.2.2 ^^^ r.2.2).testBit k = _
  rw [Nat.testBit_xor, hk r hr, h.own k hk, Bool.xor_false]
/-- the mask grows smaller -/
theorem xr_lt {c r : Row} (hc : 0 < c.1) (hr : 0 < r.1) (h : c.1.log2 = r.1.log2) : (xr c r).1 < c.1 := by
  show c.1 ^^^ r.1 < c.1
  refine lt_bits c.1.log2 ?_ (lead_bit hc).1 fun j hj => ?_
  · rw [Nat.testBit_xor, (lead_bit hc).1, h, (lead_bit hr).1]; rfl
  · rw [Nat.testBit_xor, above_lead hj, above_lead (h ▸ hj)]; rfl
end
section
theorem Ech.snoc {N : Nat} {rows : List Row} {c : Row} (E : Ech N rows) (h0 : 0 < c.1) (hN : c.1 < 2 ^ N) (h : ∀ r ∈ rows, r.1.log2 ≠ c.1.log2) : Ech N (rows ++ [c]) := by
  refine ⟨fun r hr => ?_, fun r hr => ?_, List.pairwise_append.mpr ⟨E.dis, List.pairwise_singleton _ _, fun a ha b hb => ?_⟩⟩
  · rcases List.mem_append.mp hr with z | z
    · exact E.pos r z
    · cases List.mem_singleton.mp z; exact h0
  · rcases List.mem_append.mp hr with z | z
    · exact E.lt r z
    · cases List.mem_singleton.mp z; exact hN
  · cases List.mem_singleton.mp hb; exact h a ha
theorem SolR.snoc {N : Nat} {rows : List Row} {c : Row} {x : Nat → Bool} : SolR N (rows ++ [c]) x ↔ SolR N rows x ∧ sat N x c := by
  refine ⟨fun h => ⟨fun r hr => h r (List.mem_append_left _ hr), h c (List.mem_append_right _ (List.mem_singleton.mpr rfl))⟩, fun h r hr => ?_⟩
  rcases List.mem_append.mp hr with z | z
  · exact h.1 r z
  · cases List.mem_singleton.mp z; exact h.2
theorem sat_0 {N : Nat} {x : Nat → Bool} {c : Row} (h : c.1 = 0) : sat N x c ↔ c.2.1 = false := by
  unfold sat
  rw [h, xb_congr N (g := fun _ => false) fun c _ => by simp, xb_false]
  exact eq_comm
/-- what a text of p bits tells of the rows that lead below p -/
def OkP (p : Nat) (rows : List Row) (s : List Bool) : Prop := ∀ r ∈ rows, r.1 < 2 ^ p → sat p (bitF s) r
theorem bitF_l {s : List Bool} {b : Bool} {c : Nat} (h : c < s.length) : bitF (s ++ [b]) c = bitF s c := by
  unfold bitF
  rw [List.getD_eq_getElem?_getD, List.getD_eq_getElem?_getD, List.getElem?_append_left h]
theorem bitF_r {s : List Bool} {b : Bool} : bitF (s ++ [b]) s.length = b := by
  unfold bitF
  rw [List.getD_eq_getElem?_getD, List.getElem?_append_right (Nat.le_refl _), Nat.sub_self]
  rfl
theorem xb_snoc {s : List Bool} {b : Bool} (m : Nat) : xb (fun c => bitF (s ++ [b]) c && m.testBit c) (s.length + 1) = (xb (fun c => bitF s c && m.testBit c) s.length ^^ (b && m.testBit s.length)) := by
  show (xb (fun c => bitF (s ++ [b]) c && m.testBit c) s.length ^^ (bitF (s ++ [b]) s.length && m.testBit s.length)) = _
  rw [bitF_r, xb_congr s.length fun c hc => by rw [bitF_l hc]]
theorem ok_none {rows : List Row} {s : List Bool} {b : Bool} (hn : ∀ r ∈ rows, 0 < r.1 ∧ r.1.log2 ≠ s.length) : OkP (s.length + 1) rows (s ++ [b]) ↔ OkP s.length rows s := by
  have key : ∀ r ∈ rows, r.1 < 2 ^ (s.length + 1) → r.1 < 2 ^ s.length := fun r hr h => by
    obtain ⟨h0, h1⟩ := hn r hr
    have := (Nat.log2_lt (Nat.ne_of_gt h0)).mpr h
    exact (Nat.log2_lt (Nat.ne_of_gt h0)).mp (by omega)
  have st : ∀ r ∈ rows, r.1 < 2 ^ s.length → (sat (s.length + 1) (bitF (s ++ [b])) r ↔ sat s.length (bitF s) r) := fun r hr h => by
    unfold sat
    rw [xb_snoc, Nat.testBit_lt_two_pow h, Bool.and_false, Bool.xor_false]
  exact ⟨fun h r hr hl => (st r hr hl).mp (h r hr (Nat.lt_trans hl (by rw [Nat.pow_succ]; have := Nat.two_pow_pos s.length; omega))), fun h r hr hl => (st r hr (key r hr hl)).mpr (h r hr (key r hr hl))⟩
end
section
theorem pw_uniq {α : Type} {f : α → Nat} : ∀ {l : List α}, l.Pairwise (fun a b => f a ≠ f b) → ∀ a ∈ l, ∀ b ∈ l, f a = f b → a = b
  | [], _, a, ha, _, _, _ => nomatch ha
  | x :: l, h, a, ha, b, hb, e => by
    obtain ⟨h1, h2⟩ := List.pairwise_cons.mp h
    rcases List.mem_cons.mp ha with z | z <;> rcases List.mem_cons.mp hb with y | y
    · rw [z, y]
    · exact absurd (by rw [← z]; exact e) (h1 b y)
    · exact absurd (by rw [← y]; exact e.symm) (h1 a z)
    · exact pw_uniq h2 a z b y e
theorem ok_some {N : Nat} {rows : List Row} {s : List Bool} {b : Bool} {r0 : Row} (E : Ech N rows) (h0 : r0 ∈ rows) (hl : r0.1.log2 = s.length) :
    OkP (s.length + 1) rows (s ++ [b]) ↔ OkP s.length rows s ∧ b = (r0.2.1 ^^ xb (fun c => bitF s c && r0.1.testBit c) s.length) := by
  have key : ∀ r ∈ rows, r.1 < 2 ^ (s.length + 1) → r.1 < 2 ^ s.length ∨ r = r0 := fun r hr h => by
    have hp := Nat.ne_of_gt (E.pos r hr)
    have := (Nat.log2_lt hp).mpr h
    by_cases e : r.1.log2 = s.length
    · exact .inr (pw_uniq (f := fun r : Row => r.1.log2) E.dis r hr r0 h0 (e.trans hl.symm))
    · exact .inl ((Nat.log2_lt hp).mp (by omega))
  have st : ∀ r ∈ rows, r.1 < 2 ^ s.length → (sat (s.length + 1) (bitF (s ++ [b])) r ↔ sat s.length (bitF s) r) := fun r hr h => by
    unfold sat
    rw [xb_snoc, Nat.testBit_lt_two_pow h, Bool.and_false, Bool.xor_false]
  have s0 : sat (s.length + 1) (bitF (s ++ [b])) r0 ↔ b = (r0.2.1 ^^ xb (fun c => bitF s c && r0.1.testBit c) s.length) := by
    unfold sat
    rw [xb_snoc, ← hl, (lead_bit (E.pos r0 h0)).1, Bool.and_true]
    cases xb (fun c => bitF s c && r0.1.testBit c) r0.1.log2 <;> cases b <;> cases r0.2.1 <;> simp
  have l0 : r0.1 < 2 ^ (s.length + 1) := by rw [← hl]; exact (lead_bit (E.pos r0 h0)).2
  refine ⟨fun h => ⟨fun r hr hlt => (st r hr hlt).mp (h r hr (Nat.lt_trans hlt (by rw [Nat.pow_succ]; have := Nat.two_pow_pos s.length; omega))), s0.mp (h r0 h0 l0)⟩, fun h r hr hlt => ?_⟩
  rcases key r hr hlt with z | rfl
  · exact (st r hr z).mpr (h.1 r hr z)
  · exact s0.mpr h.2
open Classical in
noncomputable def solP (p : Nat) (rows : List Row) : List (List Bool) := (strB p).filter fun s => decide (OkP p rows s)
theorem filt_flat {P Q : List Bool → Bool} {k : Nat} : ∀ l : List (List Bool), (∀ s ∈ l, ([s ++ [false], s ++ [true]].filter Q).length = if P s = true then k else 0) → ((l.flatMap fun s => [s ++ [false], s ++ [true]]).filter Q).length = (l.filter P).length * k
  | [], _ => by simp
  | s :: l, h => by
    rw [List.flatMap_cons, List.filter_append, List.length_append, h s List.mem_cons_self, filt_flat l fun t ht => h t (List.mem_cons_of_mem _ ht), List.filter_cons]
    split
    · rw [List.length_cons, Nat.add_mul]; omega
    · omega
theorem sol_step {N p : Nat} {rows : List Row} (E : Ech N rows) : (solP (p + 1) rows).length = (solP p rows).length * (if ∃ r ∈ rows, r.1.log2 = p then 1 else 2) := by
  unfold solP
  rw [strB]
  refine filt_flat _ fun s hs => ?_
  have hs := mem_strB.mp hs
  subst hs
  by_cases hr : ∃ r ∈ rows, r.1.log2 = s.length
  · rw [if_pos hr]
    obtain ⟨r0, h0, hl⟩ := hr
    have e := fun b => ok_some (b := b) E h0 hl
    generalize (r0.2.1 ^^ xb (fun c => bitF s c && r0.1.testBit c) s.length) = b0 at e
    by_cases hp : OkP s.length rows s
    · rw [if_pos (by simpa using hp)]
      cases b0 <;> simp [List.filter_cons, e, hp]
    · rw [if_neg (by simpa using hp)]
      simp [List.filter_cons, e, hp]
  · rw [if_neg hr]
    have e := fun b => ok_none (rows := rows) (s := s) (b := b) fun r hr' => ⟨E.pos r hr', fun z => hr ⟨r, hr', z⟩⟩
    by_cases hp : OkP s.length rows s
    · rw [if_pos (by simpa using hp)]
      simp [List.filter_cons, e, hp]
    · rw [if_neg (by simpa using hp)]
      simp [List.filter_cons, e, hp]
end
section
theorem pw_cnt {α : Type} {f : α → Nat} {p : Nat} : ∀ {l : List α}, l.Pairwise (fun a b => f a ≠ f b) → (l.filter fun a => decide (f a = p)).length = if ∃ a ∈ l, f a = p then 1 else 0
  | [], _ => by simp
  | x :: l, h => by
    obtain ⟨h1, h2⟩ := List.pairwise_cons.mp h
    have ih := pw_cnt (f := f) (p := p) h2
    rw [List.filter_cons]
    by_cases e : f x = p
    · have q1 : ¬ ∃ a ∈ l, f a = p := by
        rintro ⟨a, ha, ea⟩
        exact h1 a ha (e.trans ea.symm)
      rw [if_pos (by simpa using e), List.length_cons, ih, if_neg q1, if_pos ⟨x, List.mem_cons_self, e⟩]
    · rw [if_neg (by simpa using e), ih]
      by_cases q : ∃ a ∈ l, f a = p
      · obtain ⟨a, ha, ea⟩ := q
        rw [if_pos ⟨a, ha, ea⟩, if_pos ⟨a, List.mem_cons_of_mem _ ha, ea⟩]
      · rw [if_neg q, if_neg]
        rintro ⟨a, ha, ea⟩
        rcases List.mem_cons.mp ha with rfl | ha
        · exact e ea
        · exact q ⟨a, ha, ea⟩
theorem lt_succ_cnt {α : Type} {f : α → Nat} (p : Nat) : ∀ l : List α, (l.filter fun a => decide (f a < p + 1)).length = (l.filter fun a => decide (f a < p)).length + (l.filter fun a => decide (f a = p)).length
  | [] => rfl
  | x :: l => by
    have ih := lt_succ_cnt (f := f) p l
    rw [List.filter_cons, List.filter_cons, List.filter_cons]
    rcases Nat.lt_trichotomy (f x) p with h | h | h
    · rw [if_pos (by simp; omega), if_pos (by simpa using h), if_neg (by simp; omega), List.length_cons, List.length_cons, ih]; omega
    · rw [if_pos (by simp; omega), if_neg (by simp; omega), if_pos (by simpa using h), List.length_cons, List.length_cons, ih]; omega
    · rw [if_neg (by simp; omega), if_neg (by simp; omega), if_neg (by simp; omega), ih]
theorem sol_len {N : Nat} {rows : List Row} (E : Ech N rows) : ∀ p, (solP p rows).length * 2 ^ (rows.filter fun r => decide (r.1.log2 < p)).length = 2 ^ p
  | 0 => by
    have e : OkP 0 rows [] := fun r hr h => absurd (E.pos r hr) (by rw [Nat.pow_zero] at h; omega)
    unfold solP
    rw [strB, List.filter_cons, if_pos (by simpa using e)]
    simp
  | p + 1 => by
    have ih := sol_len E p
    rw [sol_step E, lt_succ_cnt (f := fun r : Row => r.1.log2) p rows, pw_cnt (f := fun r : Row => r.1.log2) (p := p) E.dis, Nat.pow_add, Nat.pow_succ 2 p, ← ih]
    split
    · rw [Nat.mul_one, Nat.pow_one, Nat.mul_assoc]
    · rw [Nat.pow_zero, Nat.mul_one, Nat.mul_right_comm]
theorem sol_all {N : Nat} {rows : List Row} (E : Ech N rows) : (solP N rows).length * 2 ^ rows.length = 2 ^ N := by
  have h := sol_len E N
  rw [List.filter_eq_self.mpr fun r hr => by
    have := (Nat.log2_lt (Nat.ne_of_gt (E.pos r hr))).mpr (E.lt r hr)
    simpa using this] at h
  exact h
theorem sol_mem {N : Nat} {rows : List Row} (E : Ech N rows) {s : List Bool} : s ∈ solP N rows ↔ s.length = N ∧ SolR N rows (bitF s) := by
  unfold solP
  rw [List.mem_filter, mem_strB]
  refine and_congr Iff.rfl ?_
  simp only [decide_eq_true_eq]
  exact ⟨fun h r hr => h r hr (E.lt r hr), fun h r hr _ => h r hr⟩
theorem rank_le {N : Nat} {rows : List Row} (E : Ech N rows) : rows.length ≤ N := by
  have h := sol_all E
  rcases Nat.lt_or_ge N rows.length with z | z
  · exfalso
    have h1 : 0 < (solP N rows).length := by
      rcases Nat.eq_zero_or_pos (solP N rows).length with q | q
      · rw [q, Nat.zero_mul] at h
        have := Nat.two_pow_pos N
        omega
      · exact q
    have h2 : 2 ^ N < 2 ^ rows.length := Nat.pow_lt_pow_right (by decide) z
    have h3 : 1 * 2 ^ rows.length ≤ (solP N rows).length * 2 ^ rows.length := Nat.mul_le_mul_right _ h1
    omega
  · exact z
theorem sol_num {N : Nat} {rows : List Row} (E : Ech N rows) : (solP N rows).length = 2 ^ (N - rows.length) := by
  have h := sol_all E
  have e : 2 ^ N = 2 ^ (N - rows.length) * 2 ^ rows.length := by rw [← Nat.pow_add, Nat.sub_add_cancel (rank_le E)]
  exact Nat.eq_of_mul_eq_mul_right (Nat.two_pow_pos _) (h.trans e)
end
section
def ext : Nat → List Bool → List (List Bool)
  | 0, p => [p]
  | n + 1, p => ext n (p ++ [false]) ++ ext n (p ++ [true])
theorem ext_snoc : ∀ (n : Nat) (p : List Bool), ext (n + 1) p = (ext n p).flatMap fun s => [s ++ [false], s ++ [true]]
  | 0, p => rfl
  | n + 1, p => by
    rw [ext, ext_snoc n, ext_snoc n, ext, List.flatMap_append]
theorem strB_ext : ∀ n, strB n = ext n []
  | 0 => rfl
  | n + 1 => by rw [strB, ext_snoc, strB_ext n]
theorem mem_ext : ∀ {n : Nat} {p s : List Bool}, s ∈ ext n p → s.length = p.length + n ∧ s.take p.length = p
  | 0, p, s, h => by
    have h : s ∈ [p] := h
    cases List.mem_singleton.mp h
    exact ⟨rfl, List.take_length⟩
  | n + 1, p, s, h => by
    have go : ∀ b, s ∈ ext n (p ++ [b]) → s.length = p.length + (n + 1) ∧ s.take p.length = p := fun b h => by
      obtain ⟨h1, h2⟩ := mem_ext h
      rw [List.length_append, List.length_singleton] at h1 h2
      refine ⟨by omega, ?_⟩
      have := congrArg (List.take p.length) h2
      rw [List.take_take, Nat.min_eq_left (Nat.le_succ _), List.take_left] at this
      exact this
    rcases List.mem_append.mp h with h | h
    · exact go _ h
    · exact go _ h
theorem ext_bit {n : Nat} {p s : List Bool} {b : Bool} (h : s ∈ ext n (p ++ [b])) : bitF s p.length = b := by
  obtain ⟨h1, h2⟩ := mem_ext h
  have e : s = (p ++ [b]) ++ s.drop (p ++ [b]).length := by
    have := List.take_append_drop (p ++ [b]).length s
    rw [h2] at this
    exact this.symm
  unfold bitF
  rw [e, List.append_assoc, List.getD_eq_getElem?_getD, List.getElem?_append_right (Nat.le_refl _), Nat.sub_self]
  rfl
theorem take_bits {s c : List Bool} {k : Nat} (h : s.take k = c.take k) {j : Nat} (hj : j < k) : bitF s j = bitF c j := by
  have e := congrArg (fun l : List Bool => l.getD j false) h
  simp only [List.getD_eq_getElem?_getD, List.getElem?_take, if_pos hj] at e
  unfold bitF
  rw [List.getD_eq_getElem?_getD, List.getD_eq_getElem?_getD]
  exact e
theorem head_ext {P : List Bool → Bool} {c : List Bool} (hc : P c = true) (hb : ∀ k, k < c.length → bitF c k = true → ∀ s, s.length = c.length → P s = true → s.take k = c.take k → bitF s k = true) : ∀ (n : Nat) (p : List Bool), c ∈ ext n p → ((ext n p).filter P).head? = some c
  | 0, p, h => by
    have h : c ∈ [p] := h
    cases List.mem_singleton.mp h
    rw [ext, List.filter_cons, if_pos hc]
    rfl
  | n + 1, p, h => by
    rw [ext, List.filter_append]
    rcases List.mem_append.mp h with h | h
    · rw [List.head?_append, head_ext hc hb n _ h]
      rfl
    · obtain ⟨h1, h2⟩ := mem_ext h
      have hk : p.length < c.length := by rw [h1, List.length_append, List.length_singleton]; omega
      have e : (ext n (p ++ [false])).filter P = [] := List.filter_eq_nil_iff.mpr fun s hs hp => by
        obtain ⟨g1, _⟩ := mem_ext hs
        have tk : ∀ {b : Bool} {s : List Bool}, s ∈ ext n (p ++ [b]) → s.take p.length = p := fun {b s} hs => (mem_ext (n := n + 1) (p := p) (by
          rw [ext]
          cases b
          · exact List.mem_append_left _ hs
          · exact List.mem_append_right _ hs)).2
        have := hb p.length hk (ext_bit h) s (by rw [g1, h1, List.length_append, List.length_append]; rfl) hp ((tk hs).trans (tk h).symm)
        rw [ext_bit hs] at this
        cases this
      rw [e, List.nil_append]
      exact head_ext hc hb n _ h
end
section
variable {N : Nat}
theorem sat_one {x : Nat → Bool} {k t : Nat} {b : Bool} (h : k < N) : sat N x (2 ^ k, b, t) ↔ x k = b := by
  unfold sat
  have e : xb (fun c => x c && (2 ^ k).testBit c) N = x k := by
    rw [xb_congr N (g := fun c => x c && decide (k = c)) fun c _ => by rw [Nat.testBit_two_pow], xb_one, decide_eq_true h, Bool.true_and]
  rw [e]
theorem sol_congr {rows : List Row} {x y : Nat → Bool} (h : ∀ c, c < N → x c = y c) : SolR N rows x ↔ SolR N rows y := by
  have e : ∀ r : Row, xb (fun c => x c && r.1.testBit c) N = xb (fun c => y c && r.1.testBit c) N := fun r => xb_congr N fun c hc => by rw [h c hc]
  unfold SolR sat
  exact ⟨fun q r hr => (e r) ▸ q r hr, fun q r hr => (e r).symm ▸ q r hr⟩
theorem sol_ex {rows : List Row} (E : Ech N rows) : ∃ s, s.length = N ∧ SolR N rows (bitF s) := by
  have h : 0 < (solP N rows).length := by rw [sol_num E]; exact Nat.two_pow_pos _
  cases q : solP N rows with
  | nil => rw [q] at h; cases h
  | cons s l => exact ⟨s, (sol_mem E).mp (by rw [q]; exact List.mem_cons_self)⟩
/-- the first k characters of the least one are told -/
structure Grd (N : Nat) (r0 rows : List Row) (c : List Bool) : Prop where
  ech : Ech N rows
  sol : ∀ x, SolR N rows x ↔ SolR N r0 x ∧ ∀ i, i < c.length → x i = bitF c i
  best : ∀ i, i < c.length → bitF c i = true → ∀ x, SolR N r0 x → (∀ j, j < i → x j = bitF c j) → x i = true
theorem Grd.nil {r0 : List Row} (E : Ech N r0) : Grd N r0 r0 [] := ⟨E, fun x => ⟨fun h => ⟨h, fun i hi => nomatch hi⟩, fun h => h.1⟩, fun i hi => nomatch hi⟩
theorem Grd.snoc {r0 rows rows' : List Row} {c : List Bool} {b : Bool} (g : Grd N r0 rows c) (E : Ech N rows') (h1 : ∀ x, SolR N rows' x ↔ SolR N rows x ∧ x c.length = b) (h2 : b = true → ∀ x, SolR N rows x → x c.length = true) : Grd N r0 rows' (c ++ [b]) := by
  have sp : ∀ {x : Nat → Bool}, (∀ i, i < c.length → x i = bitF c i) ∧ x c.length = b ↔ ∀ i, i < (c ++ [b]).length → x i = bitF (c ++ [b]) i := fun {x} => by
    rw [List.length_append, List.length_singleton]
    refine ⟨fun ⟨q1, q2⟩ i hi => ?_, fun q => ⟨fun i hi => by rw [q i (by omega), bitF_l hi], by rw [q c.length (by omega), bitF_r]⟩⟩
    rcases Nat.lt_or_ge i c.length with z | z
    · rw [bitF_l z]; exact q1 i z
    · obtain rfl : i = c.length := by omega
      rw [bitF_r]; exact q2
  refine ⟨E, fun x => by rw [h1, g.sol, ← sp, and_assoc], fun i hi hb x hx hj => ?_⟩
  rw [List.length_append, List.length_singleton] at hi
  rcases Nat.lt_or_ge i c.length with z | z
  · rw [bitF_l z] at hb
    exact g.best i z hb x hx fun j hji => by rw [hj j hji, bitF_l (Nat.lt_trans hji z)]
  · obtain rfl : i = c.length := by omega
    rw [bitF_r] at hb
    exact h2 hb x ((g.sol x).mpr ⟨hx, fun j hjl => by rw [hj j hjl, bitF_l hjl]⟩)
/-- all characters told: it's the first one of all texts that solve -/
theorem Grd.first {r0 rows : List Row} {c : List Bool} {P : List Bool → Bool} (g : Grd N r0 rows c) (hl : c.length = N) (hP : ∀ s, s.length = N → (P s = true ↔ SolR N r0 (bitF s))) : ((strB N).filter P).head? = some c := by
  obtain ⟨s, h1, h2⟩ := sol_ex g.ech
  have hs := (g.sol _).mp h2
  have hc : SolR N r0 (bitF c) := (sol_congr fun i hi => hs.2 i (by rw [hl]; exact hi)).mp hs.1
  rw [strB_ext]
  refine head_ext ((hP c hl).mpr hc) (fun k hk hb s hs hp ht => ?_) N [] (by rw [← strB_ext]; exact mem_strB.mpr hl)
  exact g.best k hk hb _ ((hP s (hs.trans hl)).mp hp) fun j hj => take_bits ht hj
end
section
variable {N : Nat} {rows : List Row} {Q : D → Prop} {W : DEnds} {v : V} {o0 o1 o2 o3 o4 o5 o6 o7 o8 o9 o10 o11 o12 o13 : Option SD}
def bI (b : Bool) : Int := if b = true then 1 else 0
def rowD (r : Row) : D := .tup [.int r.1, .int (bI r.2.1), .int r.2.2]
def rowK (r : Row) : D := .int ((r.1.log2 + 1 : Nat) : Int)
def rowsD (rows : List Row) : List (D × D) := rows.map fun r => (rowK r, rowD r)
def rowsO (rows : List Row) : List (D × OD) := rows.map fun r => (rowK r, .sh (rowD r))
def sumsD (rows : List Row) : D := .obj 9 [.dic (rowsD rows)]
def sumsO (rows : List Row) : OD := .obj 9 [.dic false (rowsO rows)]
theorem sums_toD (rows : List Row) : (sumsO rows).toD = sumsD rows := by
  unfold sumsO sumsD rowsO rowsD
  simp only [OD.toD, ↓zHd0, zHp0, ↓zGd0, ↓zGd1, ↓zGd2, ↓zGd3, ↓zGd4, zGp0, startD, startC, ↓List.map_cons, ↓List.map_nil, ↓List.length_cons, ↓List.length_nil, Nat.reduceAdd, Nat.reduceSub, Nat.sub_self, List.replicate, ↓List.cons_append, ↓List.nil_append, List.append_nil, ↓List.getElem?_cons_zero, ↓List.getElem?_cons_succ, ↓List.set_cons_zero, ↓List.set_cons_succ, wipeD, Bool.not_true, Bool.not_false, decide_true, decide_false, beq_self_eq_true, true_and, and_true, Nat.reduceLeDiff, toDs, toDk, toDs_sh, ↓zS_ii, ↓zS_bi, ↓zS_ownO]
  have e := toDk_sh (rows.map fun r => (rowK r, rowD r))
  rw [List.map_map] at e
  exact congrArg (fun l => D.obj 9 [D.dic l]) e
theorem bl_nat {a : Nat} (h : 0 < a) : Builtin.Int.intBits (a : Int) = a.log2 + 1 := by
  have e := bits_nat h
  omega
theorem row_fit (rows : List Row) (k : Int) : inFit (rowsD rows) (.int k) = true := by
  unfold inFit rowsD
  rw [Bool.or_eq_true]
  left
  rw [Bool.and_eq_true]
  refine ⟨rfl, List.all_eq_true.mpr fun z hz => ?_⟩
  obtain ⟨r, _, rfl⟩ := List.mem_map.mp hz
  rfl
theorem row_look (k : Nat) : ∀ rows : List Row, lookK (rowsD rows) (.int ((k + 1 : Nat) : Int)) = (rows.find? fun r => decide (r.1.log2 = k)).map rowD
  | [] => rfl
  | r :: rows => by
    have ih := row_look k rows
    unfold lookK rowsD at ih ⊢
    rw [List.map_cons, List.find?_cons, List.find?_cons]
    have e : keqD (rowK r) (.int ((k + 1 : Nat) : Int)) = decide (r.1.log2 = k) := by
      show decide ((.inl ((r.1.log2 + 1 : Nat) : Int) : Key) = .inl ((k + 1 : Nat) : Int)) = _
      refine decide_eq_decide.mpr ⟨fun h => ?_, fun h => by rw [h]⟩
      have := Sum.inl.inj h
      omega
    rw [e]
    cases decide (r.1.log2 = k) with
    | true => rfl
    | false => exact ih
theorem bI_xor (a b : Bool) : Builtin.bitXor (bI a) (bI b) = bI (a ^^ b) := by
  cases a <;> cases b <;> rfl
theorem gtK_of {ks : List (D × D)} {y v : D} (h : lookK ks y = some v) (hq : Q v) : gtK (.dic ks) y Q := by
  show (match lookK ks y with | some v => Q v | none => False)
  rw [h]
  exact hq
theorem red_ok {o : Row} (E : Ech N rows) (hN : N ≤ 40) (ho : o.1 < 2 ^ N) (hq : ∀ c : Row, Lft N rows o c → c.1 < 2 ^ N → (c.1 = 0 ∨ ∀ r ∈ rows, r.1.log2 ≠ c.1.log2) → Q (rowD c)) : S_Sums_reduced [sumsD rows, .int o.1, .int (bI o.2.1), .int o.2.2] Q := by
  refine ⟨rfl, ?_⟩
  simp only [t_Sums_reduced, startD, sumsD, ↓zHd0, zHp0, ↓zGd0, ↓zGd1, ↓zGd2, ↓zGd3, ↓zGd4, zGp0, startD, startC, ↓List.map_cons, ↓List.map_nil, ↓List.length_cons, ↓List.length_nil, Nat.reduceAdd, Nat.reduceSub, Nat.sub_self, List.replicate, ↓List.cons_append, ↓List.nil_append, List.append_nil, ↓List.getElem?_cons_zero, ↓List.getElem?_cons_succ, ↓List.set_cons_zero, ↓List.set_cons_succ, wipeD, Bool.not_true, Bool.not_false, decide_true, decide_false, beq_self_eq_true, true_and, and_true, Nat.reduceLeDiff, toDs, toDk, toDs_sh, ↓zS_ii, ↓zS_bi, ↓zS_ownO]
  refine ⟨fun m δ => ∃ (c : Row) (o4 : Option SD), Lft N rows o c ∧ c.1 < 2 ^ N ∧ m = c.1 ∧ δ = [some (.sh (sumsD rows)), some (.sh (.int c.1)), some (.sh (.int (bI c.2.1))), some (.sh (.int c.2.2)), o4], ⟨_, o, _, Lft.refl o, ho, rfl, rfl⟩, fun m δ hm => ?_⟩
  obtain ⟨c, o4, lf, lt, rfl, rfl⟩ := hm
  simp only [sumsD, ↓zHd0, zHp0, ↓zGd0, ↓zGd1, ↓zGd2, ↓zGd3, ↓zGd4, zGp0, startD, startC, ↓List.map_cons, ↓List.map_nil, ↓List.length_cons, ↓List.length_nil, Nat.reduceAdd, Nat.reduceSub, Nat.sub_self, List.replicate, ↓List.cons_append, ↓List.nil_append, List.append_nil, ↓List.getElem?_cons_zero, ↓List.getElem?_cons_succ, ↓List.set_cons_zero, ↓List.set_cons_succ, wipeD, Bool.not_true, Bool.not_false, decide_true, decide_false, beq_self_eq_true, true_and, and_true, Nat.reduceLeDiff, toDs, toDk, toDs_sh, ↓zS_ii, ↓zS_bi, ↓zS_ownO]
  rcases Nat.eq_zero_or_pos c.1 with hz | hz
  · rw [decide_eq_false (by omega : ¬ (0 : Int) < (c.1 : Int))]
    simp only [↓zHd0, zHp0, ↓zGd0, ↓zGd1, ↓zGd2, ↓zGd3, ↓zGd4, zGp0, startD, startC, ↓List.map_cons, ↓List.map_nil, ↓List.length_cons, ↓List.length_nil, Nat.reduceAdd, Nat.reduceSub, Nat.sub_self, List.replicate, ↓List.cons_append, ↓List.nil_append, List.append_nil, ↓List.getElem?_cons_zero, ↓List.getElem?_cons_succ, ↓List.set_cons_zero, ↓List.set_cons_succ, wipeD, Bool.not_true, Bool.not_false, decide_true, decide_false, beq_self_eq_true, true_and, and_true, Nat.reduceLeDiff, toDs, toDk, toDs_sh, ↓zS_ii, ↓zS_bi, ↓zS_ownO]
    show Sums_reduced_at_4 _ _
    simp only [Sums_reduced_at_4, ↓zHd0, zHp0, ↓zGd0, ↓zGd1, ↓zGd2, ↓zGd3, ↓zGd4, zGp0, startD, startC, ↓List.map_cons, ↓List.map_nil, ↓List.length_cons, ↓List.length_nil, Nat.reduceAdd, Nat.reduceSub, Nat.sub_self, List.replicate, ↓List.cons_append, ↓List.nil_append, List.append_nil, ↓List.getElem?_cons_zero, ↓List.getElem?_cons_succ, ↓List.set_cons_zero, ↓List.set_cons_succ, wipeD, Bool.not_true, Bool.not_false, decide_true, decide_false, beq_self_eq_true, true_and, and_true, Nat.reduceLeDiff, toDs, toDk, toDs_sh, ↓zS_ii, ↓zS_bi, ↓zS_ownO]
    exact hq c lf lt (.inl hz)
  · rw [decide_eq_true (by omega : (0 : Int) < (c.1 : Int))]
    simp only [↓zHd0, zHp0, ↓zGd0, ↓zGd1, ↓zGd2, ↓zGd3, ↓zGd4, zGp0, startD, startC, ↓List.map_cons, ↓List.map_nil, ↓List.length_cons, ↓List.length_nil, Nat.reduceAdd, Nat.reduceSub, Nat.sub_self, List.replicate, ↓List.cons_append, ↓List.nil_append, List.append_nil, ↓List.getElem?_cons_zero, ↓List.getElem?_cons_succ, ↓List.set_cons_zero, ↓List.set_cons_succ, wipeD, Bool.not_true, Bool.not_false, decide_true, decide_false, beq_self_eq_true, true_and, and_true, Nat.reduceLeDiff, toDs, toDk, toDs_sh, ↓zS_ii, ↓zS_bi, ↓zS_ownO]
    refine ⟨row_fit _ _, ?_⟩
    rw [bl_nat hz, row_look]
    cases hf : rows.find? fun r => decide (r.1.log2 = c.1.log2) with
    | none =>
      show Sums_reduced_at_4 _ _
      simp only [Sums_reduced_at_4, ↓zHd0, zHp0, ↓zGd0, ↓zGd1, ↓zGd2, ↓zGd3, ↓zGd4, zGp0, startD, startC, ↓List.map_cons, ↓List.map_nil, ↓List.length_cons, ↓List.length_nil, Nat.reduceAdd, Nat.reduceSub, Nat.sub_self, List.replicate, ↓List.cons_append, ↓List.nil_append, List.append_nil, ↓List.getElem?_cons_zero, ↓List.getElem?_cons_succ, ↓List.set_cons_zero, ↓List.set_cons_succ, wipeD, Bool.not_true, Bool.not_false, decide_true, decide_false, beq_self_eq_true, true_and, and_true, Nat.reduceLeDiff, toDs, toDk, toDs_sh, ↓zS_ii, ↓zS_bi, ↓zS_ownO]
      exact hq c lf lt (.inr fun r hr => by simpa using List.find?_eq_none.mp hf r hr)
    | some r =>
      have hr := List.mem_of_find?_eq_some hf
      have hl : r.1.log2 = c.1.log2 := by simpa using List.find?_some hf
      show b_Sums_reduced_1 _ _
      simp only [b_Sums_reduced_1, ↓zHd0, zHp0, ↓zGd0, ↓zGd1, ↓zGd2, ↓zGd3, ↓zGd4, zGp0, startD, startC, ↓List.map_cons, ↓List.map_nil, ↓List.length_cons, ↓List.length_nil, Nat.reduceAdd, Nat.reduceSub, Nat.sub_self, List.replicate, ↓List.cons_append, ↓List.nil_append, List.append_nil, ↓List.getElem?_cons_zero, ↓List.getElem?_cons_succ, ↓List.set_cons_zero, ↓List.set_cons_succ, wipeD, Bool.not_true, Bool.not_false, decide_true, decide_false, beq_self_eq_true, true_and, and_true, Nat.reduceLeDiff, toDs, toDk, toDs_sh, ↓zS_ii, ↓zS_bi, ↓zS_ownO]
      rw [bl_nat hz]
      refine gtK_of (v := rowD r) (by rw [row_look, hf]; rfl) ?_
      show Sums_reduced_at_3 _ _
      simp only [Sums_reduced_at_3, rowD, ↓zHd0, zHp0, ↓zGd0, ↓zGd1, ↓zGd2, ↓zGd3, ↓zGd4, zGp0, startD, startC, ↓List.map_cons, ↓List.map_nil, ↓List.length_cons, ↓List.length_nil, Nat.reduceAdd, Nat.reduceSub, Nat.sub_self, List.replicate, ↓List.cons_append, ↓List.nil_append, List.append_nil, ↓List.getElem?_cons_zero, ↓List.getElem?_cons_succ, ↓List.set_cons_zero, ↓List.set_cons_succ, wipeD, Bool.not_true, Bool.not_false, decide_true, decide_false, beq_self_eq_true, true_and, and_true, Nat.reduceLeDiff, toDs, toDk, toDs_sh, ↓zS_ii, ↓zS_bi, ↓zS_ownO]
      intro u v w
      refine ⟨_, xr_lt hz (E.pos r hr) hl.symm, xr c r, some (.sh (rowD r)), lf.step hr, Nat.xor_lt_two_pow lt (E.lt r hr), rfl, ?_⟩
      rw [bxor_nat, bxor_nat, bI_xor]
      rfl
theorem rowK_eq (r c : Row) : keqD (rowK r) (rowK c) = decide (r.1.log2 = c.1.log2) := by
  show decide ((.inl ((r.1.log2 + 1 : Nat) : Int) : Key) = .inl ((c.1.log2 + 1 : Nat) : Int)) = _
  refine decide_eq_decide.mpr ⟨fun h => ?_, fun h => by rw [h]⟩
  have := Sum.inl.inj h
  omega
theorem put_new {c : Row} (h : ∀ r ∈ rows, r.1.log2 ≠ c.1.log2) : putO (rowsO rows) (rowK c) (.sh (rowD c)) = rowsO (rows ++ [c]) := by
  unfold putO
  rw [if_neg, rowsO, rowsO, List.map_append]
  · rfl
  · intro z
    obtain ⟨y, hy, e⟩ := List.any_eq_true.mp z
    obtain ⟨r, hr, rfl⟩ := List.mem_map.mp hy
    rw [rowK_eq] at e
    exact h r hr (of_decide_eq_true e)
theorem rank_ok (hq : Q (.int (rows.length : Nat))) : S_Sums_rank [sumsD rows] Q := by
  refine ⟨rfl, ?_⟩
  simp only [t_Sums_rank, startD, sumsD, ↓zHd0, zHp0, ↓zGd0, ↓zGd1, ↓zGd2, ↓zGd3, ↓zGd4, zGp0, startD, startC, ↓List.map_cons, ↓List.map_nil, ↓List.length_cons, ↓List.length_nil, Nat.reduceAdd, Nat.reduceSub, Nat.sub_self, List.replicate, ↓List.cons_append, ↓List.nil_append, List.append_nil, ↓List.getElem?_cons_zero, ↓List.getElem?_cons_succ, ↓List.set_cons_zero, ↓List.set_cons_succ, wipeD, Bool.not_true, Bool.not_false, decide_true, decide_false, beq_self_eq_true, true_and, and_true, Nat.reduceLeDiff, toDs, toDk, toDs_sh, ↓zS_ii, ↓zS_bi, ↓zS_ownO]
  unfold rowsD
  rw [List.length_map]
  exact hq
theorem put_ok {o : Row} {QM : D → OD → Prop} (E : Ech N rows) (hN : N ≤ 40) (ho : o.1 < 2 ^ N) (hz : rows.length ≤ 900)
    (h1 : ∀ c : Row, Lft N rows o c → 0 < c.1 → Ech N (rows ++ [c]) → QM (.int 0) (sumsO (rows ++ [c])))
    (h2 : ∀ c : Row, Lft N rows o c → c.1 = 0 → QM (.int (if c.2.1 = true then (c.2.2 : Int) else 0)) (sumsO rows)) : S_Sums_put [] (sumsO rows) [.int o.1, .int (bI o.2.1), .int o.2.2] QM := by
  refine ⟨⟨rfl, rfl⟩, fun v => ?_⟩
  simp only [t_Sums_put, startC, sums_toD, ↓zHd0, zHp0, ↓zGd0, ↓zGd1, ↓zGd2, ↓zGd3, ↓zGd4, zGp0, startD, startC, ↓List.map_cons, ↓List.map_nil, ↓List.length_cons, ↓List.length_nil, Nat.reduceAdd, Nat.reduceSub, Nat.sub_self, List.replicate, ↓List.cons_append, ↓List.nil_append, List.append_nil, ↓List.getElem?_cons_zero, ↓List.getElem?_cons_succ, ↓List.set_cons_zero, ↓List.set_cons_succ, wipeD, Bool.not_true, Bool.not_false, decide_true, decide_false, beq_self_eq_true, true_and, and_true, Nat.reduceLeDiff, toDs, toDk, toDs_sh, ↓zS_ii, ↓zS_bi, ↓zS_ownO]
  refine ⟨rfl, red_ok E hN ho fun c lf lt hc => ?_⟩
  simp only [rowD, ↓zHd0, zHp0, ↓zGd0, ↓zGd1, ↓zGd2, ↓zGd3, ↓zGd4, zGp0, startD, startC, ↓List.map_cons, ↓List.map_nil, ↓List.length_cons, ↓List.length_nil, Nat.reduceAdd, Nat.reduceSub, Nat.sub_self, List.replicate, ↓List.cons_append, ↓List.nil_append, List.append_nil, ↓List.getElem?_cons_zero, ↓List.getElem?_cons_succ, ↓List.set_cons_zero, ↓List.set_cons_succ, wipeD, Bool.not_true, Bool.not_false, decide_true, decide_false, beq_self_eq_true, true_and, and_true, Nat.reduceLeDiff, toDs, toDk, toDs_sh, ↓zS_ii, ↓zS_bi, ↓zS_ownO]
  refine ⟨rfl, ?_⟩
  try simp only [↓zHd0, zHp0, ↓zGd0, ↓zGd1, ↓zGd2, ↓zGd3, ↓zGd4, zGp0, startD, startC, ↓List.map_cons, ↓List.map_nil, ↓List.length_cons, ↓List.length_nil, Nat.reduceAdd, Nat.reduceSub, Nat.sub_self, List.replicate, ↓List.cons_append, ↓List.nil_append, List.append_nil, ↓List.getElem?_cons_zero, ↓List.getElem?_cons_succ, ↓List.set_cons_zero, ↓List.set_cons_succ, wipeD, Bool.not_true, Bool.not_false, decide_true, decide_false, beq_self_eq_true, true_and, and_true, Nat.reduceLeDiff, toDs, toDk, toDs_sh, ↓zS_ii, ↓zS_bi, ↓zS_ownO]
  simp only [Sums_put_at_2, sumsO, ↓zHd0, zHp0, ↓zGd0, ↓zGd1, ↓zGd2, ↓zGd3, ↓zGd4, zGp0, startD, startC, ↓List.map_cons, ↓List.map_nil, ↓List.length_cons, ↓List.length_nil, Nat.reduceAdd, Nat.reduceSub, Nat.sub_self, List.replicate, ↓List.cons_append, ↓List.nil_append, List.append_nil, ↓List.getElem?_cons_zero, ↓List.getElem?_cons_succ, ↓List.set_cons_zero, ↓List.set_cons_succ, wipeD, Bool.not_true, Bool.not_false, decide_true, decide_false, beq_self_eq_true, true_and, and_true, Nat.reduceLeDiff, toDs, toDk, toDs_sh, ↓zS_ii, ↓zS_bi, ↓zS_ownO]
  rcases Nat.eq_zero_or_pos c.1 with hz0 | hz0
  · rw [decide_eq_false (by omega : ¬ (0 : Int) < (c.1 : Int))]
    simp only [Sums_put_at_5, ↓zHd0, zHp0, ↓zGd0, ↓zGd1, ↓zGd2, ↓zGd3, ↓zGd4, zGp0, startD, startC, ↓List.map_cons, ↓List.map_nil, ↓List.length_cons, ↓List.length_nil, Nat.reduceAdd, Nat.reduceSub, Nat.sub_self, List.replicate, ↓List.cons_append, ↓List.nil_append, List.append_nil, ↓List.getElem?_cons_zero, ↓List.getElem?_cons_succ, ↓List.set_cons_zero, ↓List.set_cons_succ, wipeD, Bool.not_true, Bool.not_false, decide_true, decide_false, beq_self_eq_true, true_and, and_true, Nat.reduceLeDiff, toDs, toDk, toDs_sh, ↓zS_ii, ↓zS_bi, ↓zS_ownO]
    have e := h2 c lf hz0
    cases hb : c.2.1 with
    | true =>
      rw [hb] at e
      rw [decide_eq_true (by rfl : bI true = 1)]
      simp only [↓zHd0, zHp0, ↓zGd0, ↓zGd1, ↓zGd2, ↓zGd3, ↓zGd4, zGp0, startD, startC, ↓List.map_cons, ↓List.map_nil, ↓List.length_cons, ↓List.length_nil, Nat.reduceAdd, Nat.reduceSub, Nat.sub_self, List.replicate, ↓List.cons_append, ↓List.nil_append, List.append_nil, ↓List.getElem?_cons_zero, ↓List.getElem?_cons_succ, ↓List.set_cons_zero, ↓List.set_cons_succ, wipeD, Bool.not_true, Bool.not_false, decide_true, decide_false, beq_self_eq_true, true_and, and_true, Nat.reduceLeDiff, toDs, toDk, toDs_sh, ↓zS_ii, ↓zS_bi, ↓zS_ownO]
      exact e
    | false =>
      rw [hb] at e
      rw [decide_eq_false (by decide : ¬ bI false = 1)]
      simp only [↓zHd0, zHp0, ↓zGd0, ↓zGd1, ↓zGd2, ↓zGd3, ↓zGd4, zGp0, startD, startC, ↓List.map_cons, ↓List.map_nil, ↓List.length_cons, ↓List.length_nil, Nat.reduceAdd, Nat.reduceSub, Nat.sub_self, List.replicate, ↓List.cons_append, ↓List.nil_append, List.append_nil, ↓List.getElem?_cons_zero, ↓List.getElem?_cons_succ, ↓List.set_cons_zero, ↓List.set_cons_succ, wipeD, Bool.not_true, Bool.not_false, decide_true, decide_false, beq_self_eq_true, true_and, and_true, Nat.reduceLeDiff, toDs, toDk, toDs_sh, ↓zS_ii, ↓zS_bi, ↓zS_ownO]
      exact e
  · rw [decide_eq_true (by omega : (0 : Int) < (c.1 : Int))]
    simp only [Sums_put_at_4, ↓zHd0, zHp0, ↓zGd0, ↓zGd1, ↓zGd2, ↓zGd3, ↓zGd4, zGp0, startD, startC, ↓List.map_cons, ↓List.map_nil, ↓List.length_cons, ↓List.length_nil, Nat.reduceAdd, Nat.reduceSub, Nat.sub_self, List.replicate, ↓List.cons_append, ↓List.nil_append, List.append_nil, ↓List.getElem?_cons_zero, ↓List.getElem?_cons_succ, ↓List.set_cons_zero, ↓List.set_cons_succ, wipeD, Bool.not_true, Bool.not_false, decide_true, decide_false, beq_self_eq_true, true_and, and_true, Nat.reduceLeDiff, toDs, toDk, toDs_sh, ↓zS_ii, ↓zS_bi, ↓zS_ownO]
    have hc := hc.resolve_left (Nat.ne_of_gt hz0)
    refine ⟨by decide, ⟨rfl, by rw [rowsO, List.length_map]; exact Nat.lt_of_le_of_lt hz (by decide)⟩, ?_⟩
    have e := h1 c lf hz0 (E.snoc hz0 lt hc)
    rw [bl_nat hz0]
    show QM (.int 0) (.obj 9 [.dic false (putO (rowsO rows) (rowK c) (.sh (rowD c)))])
    rw [put_new hc]
    exact e
end
section
variable {N t : Nat} {rows : List Row} {o c : Row}
/-- no mark at t or above -/
def Mk0 (t : Nat) (rows : List Row) : Prop := ∀ r ∈ rows, ∀ k, t ≤ k → r.2.2.testBit k = false
theorem Mk0.snoc (h : Mk0 t rows) (lf : Lft N rows o c) (ho : o.2.2 = 2 ^ t) : Mk0 (t + 1) (rows ++ [c]) := fun r hr k hk => by
  rcases List.mem_append.mp hr with z | z
  · exact h r z k (by omega)
  · cases List.mem_singleton.mp z
    rw [lf.own k fun r hr => h r hr k (by omega), ho, Nat.testBit_two_pow]
    exact decide_eq_false (by omega)
theorem Mk0.up {s : Nat} (h : Mk0 t rows) (hs : t ≤ s) : Mk0 s rows := fun r hr k hk => h r hr k (by omega)
theorem put_sol (lf : Lft N rows o c) (x : Nat → Bool) : SolR N (rows ++ [c]) x ↔ SolR N rows x ∧ sat N x o :=
  SolR.snoc.trans ⟨fun ⟨a, b⟩ => ⟨a, (lf.eqv x a).mp b⟩, fun ⟨a, b⟩ => ⟨a, (lf.eqv x a).mpr b⟩⟩
theorem put_idle (lf : Lft N rows o c) (h0 : c.1 = 0) (hb : c.2.1 = false) {x : Nat → Bool} (hx : SolR N rows x) : sat N x o := (lf.eqv x hx).mp ((sat_0 h0).mpr hb)
theorem put_not (lf : Lft N rows o c) (h0 : c.1 = 0) (hb : c.2.1 = true) {x : Nat → Bool} (hx : SolR N rows x) : ¬ sat N x o := fun h => by
  have := (sat_0 h0).mp ((lf.eqv x hx).mpr h)
  rw [hb] at this
  cases this
theorem put_pos (lf : Lft N rows o c) (h : Mk0 t rows) (ho : o.2.2 = 2 ^ t) : 0 < c.2.2 := by
  rcases Nat.eq_zero_or_pos c.2.2 with z | z
  · have e := lf.own t fun r hr => h r hr t (Nat.le_refl _)
    rw [z, ho, Nat.testBit_two_pow, Nat.zero_testBit] at e
    have := e.trans (decide_eq_true rfl)
    cases this
  · exact z
/-- the sums of these wishes, no one refused so far -/
structure Sms (N : Nat) (cs : List (Nat × Bool)) (rows : List Row) : Prop where
  ech : Ech N rows
  sol : ∀ x, SolR N rows x ↔ ∀ z ∈ cs, sat N x (z.1, z.2, 0)
  tk : Mk0 cs.length rows
theorem Sms.nil : Sms N [] [] := ⟨⟨(fun _ h => nomatch h), (fun _ h => nomatch h), List.Pairwise.nil⟩, fun x => ⟨(fun _ z hz => nomatch hz), fun _ r hr => nomatch hr⟩, fun _ h => nomatch h⟩
theorem Sms.snoc {cs : List (Nat × Bool)} {m : Nat} {b : Bool} (S : Sms N cs rows) (lf : Lft N rows (m, b, 2 ^ cs.length) c) (E : Ech N (rows ++ [c])) : Sms N (cs ++ [(m, b)]) (rows ++ [c]) := by
  refine ⟨E, fun x => ?_, by rw [List.length_append, List.length_singleton]; exact S.tk.snoc lf rfl⟩
  rw [put_sol lf, S.sol]
  refine ⟨fun ⟨h1, h2⟩ z hz => ?_, fun h => ⟨fun z hz => h z (List.mem_append_left _ hz), h (m, b) (List.mem_append_right _ (List.mem_singleton.mpr rfl))⟩⟩
  rcases List.mem_append.mp hz with q | q
  · exact h1 z q
  · cases List.mem_singleton.mp q; exact h2
theorem Sms.idle {cs : List (Nat × Bool)} {m : Nat} {b : Bool} (S : Sms N cs rows) (lf : Lft N rows (m, b, 2 ^ cs.length) c) (h0 : c.1 = 0) (hb : c.2.1 = false) : Sms N (cs ++ [(m, b)]) rows := by
  refine ⟨S.ech, fun x => ?_, S.tk.up (by rw [List.length_append]; omega)⟩
  rw [S.sol]
  refine ⟨fun h1 z hz => ?_, fun h z hz => h z (List.mem_append_left _ hz)⟩
  rcases List.mem_append.mp hz with q | q
  · exact h1 z q
  · cases List.mem_singleton.mp q; exact put_idle lf h0 hb ((S.sol x).mpr h1)
theorem Sms.none {cs : List (Nat × Bool)} {m : Nat} {b : Bool} (S : Sms N cs rows) (lf : Lft N rows (m, b, 2 ^ cs.length) c) (h0 : c.1 = 0) (hb : c.2.1 = true) (x : Nat → Bool) : ¬ ∀ z ∈ cs ++ [(m, b)], sat N x (z.1, z.2, 0) := fun h =>
  put_not lf h0 hb ((S.sol x).mpr fun z hz => h z (List.mem_append_left _ hz)) (h (m, b) (List.mem_append_right _ (List.mem_singleton.mpr rfl)))
/-- one character is told -/
theorem Grd.put {r0 : List Row} {s : List Bool} (g : Grd N r0 rows s) (hs : s.length < N) (lf : Lft N rows (2 ^ s.length, false, 2 ^ t) c) (E : Ech N (rows ++ [c])) : Grd N r0 (rows ++ [c]) (s ++ [false]) :=
  g.snoc E (fun x => by rw [put_sol lf, sat_one hs]) fun z => nomatch z
theorem Grd.idle {r0 : List Row} {s : List Bool} (g : Grd N r0 rows s) (hs : s.length < N) (lf : Lft N rows (2 ^ s.length, false, 2 ^ t) c) (h0 : c.1 = 0) (hb : c.2.1 = false) : Grd N r0 rows (s ++ [false]) :=
  g.snoc g.ech (fun x => ⟨fun h => ⟨h, (sat_one hs).mp (put_idle lf h0 hb h)⟩, fun h => h.1⟩) fun z => nomatch z
theorem Grd.one {r0 : List Row} {s : List Bool} (g : Grd N r0 rows s) (hs : s.length < N) (lf : Lft N rows (2 ^ s.length, false, 2 ^ t) c) (h0 : c.1 = 0) (hb : c.2.1 = true) : Grd N r0 rows (s ++ [true]) := by
  have key : ∀ x, SolR N rows x → x s.length = true := fun x hx => by
    have := put_not lf h0 hb hx
    rw [sat_one hs] at this
    cases q : x s.length with
    | true => rfl
    | false => exact absurd q this
  exact g.snoc g.ech (fun x => ⟨fun h => ⟨h, key x h⟩, fun h => h.1⟩) fun _ => key
end
section
variable {n m R : Nat} {fs : List Fm} {l : List Bool} {x : Mt3} {Q : D → Prop} {QO : OD → Prop} {QP : List OD → Prop} {W : DEnds} {v : V} {o0 o1 o2 o3 o4 o5 o6 o7 o8 o9 o10 o11 o12 o13 : Option SD}
theorem init_ok (hq : QO (sumsO [])) : S_Sums___init__ [] QO := by
  refine ⟨rfl, fun x => ?_⟩
  simp only [t_Sums___init__, startI, ↓zHd0, zHp0, ↓zGd0, ↓zGd1, ↓zGd2, ↓zGd3, ↓zGd4, zGp0, startD, startC, ↓List.map_cons, ↓List.map_nil, ↓List.length_cons, ↓List.length_nil, Nat.reduceAdd, Nat.reduceSub, Nat.sub_self, List.replicate, ↓List.cons_append, ↓List.nil_append, List.append_nil, ↓List.getElem?_cons_zero, ↓List.getElem?_cons_succ, ↓List.set_cons_zero, ↓List.set_cons_succ, wipeD, Bool.not_true, Bool.not_false, decide_true, decide_false, beq_self_eq_true, true_and, and_true, Nat.reduceLeDiff, toDs, toDk, toDs_sh, ↓zS_ii, ↓zS_bi, ↓zS_ownO]
  exact ⟨rfl, [], rfl, rfl, hq⟩
theorem int_bit (b : Bool) (hq : Q (.int (bI b))) : cInt [.str (bT [b])] Q := by
  have e : intText? (bT [b]) = some (bI b) := by cases b <;> decide +kernel
  show (match intText? (bT [b]) with | some n => (bT [b]).length ≤ 640 ∧ Q (.int n) | none => False)
  rw [e]
  exact ⟨by rw [bT_len]; exact (by decide : 1 ≤ 640), hq⟩
theorem ix_bT {s : List Bool} {k : Nat} (h : k < s.length) (hs : s.length ≤ 900) (hq : Q (.str (bT [s.getD k false]))) : oIx (.str (bT s)) (.int k) Q := by
  simp only [↓zHd0, zHp0, ↓zGd0, ↓zGd1, ↓zGd2, ↓zGd3, ↓zGd4, zGp0, startD, startC, ↓List.map_cons, ↓List.map_nil, ↓List.length_cons, ↓List.length_nil, Nat.reduceAdd, Nat.reduceSub, Nat.sub_self, List.replicate, ↓List.cons_append, ↓List.nil_append, List.append_nil, ↓List.getElem?_cons_zero, ↓List.getElem?_cons_succ, ↓List.set_cons_zero, ↓List.set_cons_succ, wipeD, Bool.not_true, Bool.not_false, decide_true, decide_false, beq_self_eq_true, true_and, and_true, Nat.reduceLeDiff, toDs, toDk, toDs_sh, ↓zS_ii, ↓zS_bi, ↓zS_ownO]
  refine ⟨by rw [bT_len]; exact Nat.le_trans hs (by decide), ?_⟩
  rw [bT_codes, atI_nat (v := cB (s.getD k false)) (by rw [List.getElem?_map, List.getD_eq_getElem?_getD, List.getElem?_eq_getElem h]; rfl), at1]
  exact hq
def cst (n m R : Nat) (fs : List Fm) (l : List Bool) (x : Mt3) : Nat × Bool := (mk2 (pls n m x fs 0) 0, (colT (n * m) R (x.2.1 * m + x.2.2) l).getD x.1 false)
theorem sums_1 {ys : List (Nat × Nat)} {rows : List Row} {cs : List (Nat × Bool)} (S : Sms (szF fs) cs rows) (h : FsOk fs) (hz : szF fs ≤ 40) (hn : n ≤ 8) (hm : m ≤ 8) (hx : x.1 < R ∧ x.2.1 < n ∧ x.2.2 < m) (hR : R ≤ 6) (hk : cs.length ≤ 900) (hl : mk2 (pls n m x fs 0) 0 < 2 ^ szF fs) (hy : (x.2.1, x.2.2) ∈ ys)
    (hA : ∀ rows' o10 o11, Sms (szF fs) (cs ++ [cst n m R fs l x]) rows' → W.nx [some (.sh (.dic (crsD n m R l ys))), some (.sh (fsD fs)), some (.sh (.int n)), some (.sh (.int m)), some (.sh (.int R)), some (.ow v (sumsO rows')), some (.sh (.int cs.length)), some (.sh (.int x.1)), some (.sh (.int x.2.1)), some (.sh (.int x.2.2)), o10, o11])
    (hB : ∀ u : Nat, 0 < u → (∀ X, ¬ ∀ z ∈ cs ++ [cst n m R fs l x], sat (szF fs) X (z.1, z.2, 0)) → W.rp [sumsO rows, .sh (.int u)]) :
    b_sums_of_1 W [some (.sh (.dic (crsD n m R l ys))), some (.sh (fsD fs)), some (.sh (.int n)), some (.sh (.int m)), some (.sh (.int R)), some (.ow v (sumsO rows)), some (.sh (.int cs.length)), some (.sh (.int x.1)), some (.sh (.int x.2.1)), some (.sh (.int x.2.2)), o10, o11] := by
  simp only [b_sums_of_1, ↓zHd0, zHp0, ↓zGd0, ↓zGd1, ↓zGd2, ↓zGd3, ↓zGd4, zGp0, startD, startC, ↓List.map_cons, ↓List.map_nil, ↓List.length_cons, ↓List.length_nil, Nat.reduceAdd, Nat.reduceSub, Nat.sub_self, List.replicate, ↓List.cons_append, ↓List.nil_append, List.append_nil, ↓List.getElem?_cons_zero, ↓List.getElem?_cons_succ, ↓List.set_cons_zero, ↓List.set_cons_succ, wipeD, Bool.not_true, Bool.not_false, decide_true, decide_false, beq_self_eq_true, true_and, and_true, Nat.reduceLeDiff, toDs, toDk, toDs_sh, ↓zS_ii, ↓zS_bi, ↓zS_ownO]
  refine gtK_of (look_crs hy) ?_
  refine ix_bT (by rw [colT_len]; exact hx.1) (by rw [colT_len]; omega) ?_
  refine int_bit _ ?_
  simp only [sums_of_at_5, ↓zHd0, zHp0, ↓zGd0, ↓zGd1, ↓zGd2, ↓zGd3, ↓zGd4, zGp0, startD, startC, ↓List.map_cons, ↓List.map_nil, ↓List.length_cons, ↓List.length_nil, Nat.reduceAdd, Nat.reduceSub, Nat.sub_self, List.replicate, ↓List.cons_append, ↓List.nil_append, List.append_nil, ↓List.getElem?_cons_zero, ↓List.getElem?_cons_succ, ↓List.set_cons_zero, ↓List.set_cons_succ, wipeD, Bool.not_true, Bool.not_false, decide_true, decide_false, beq_self_eq_true, true_and, and_true, Nat.reduceLeDiff, toDs, toDk, toDs_sh, ↓zS_ii, ↓zS_bi, ↓zS_ownO]
  refine ⟨rfl, mask_ok h hz hn hm ⟨by omega, hx.2.1, hx.2.2⟩ ⟨cpow1 (by omega), ?_⟩⟩
  rw [shl_nat]
  refine put_ok (o := (_, _, _)) S.ech hz hl (Nat.le_trans (rank_le S.ech) (by omega)) (fun c lf h0 E => ?_) fun c lf h0 => ?_
  · simp only [sums_of_at_6, ↓zHd0, zHp0, ↓zGd0, ↓zGd1, ↓zGd2, ↓zGd3, ↓zGd4, zGp0, startD, startC, ↓List.map_cons, ↓List.map_nil, ↓List.length_cons, ↓List.length_nil, Nat.reduceAdd, Nat.reduceSub, Nat.sub_self, List.replicate, ↓List.cons_append, ↓List.nil_append, List.append_nil, ↓List.getElem?_cons_zero, ↓List.getElem?_cons_succ, ↓List.set_cons_zero, ↓List.set_cons_succ, wipeD, Bool.not_true, Bool.not_false, decide_true, decide_false, beq_self_eq_true, true_and, and_true, Nat.reduceLeDiff, toDs, toDk, toDs_sh, ↓zS_ii, ↓zS_bi, ↓zS_ownO]
    exact hA _ _ _ (S.snoc lf E)
  · cases hb : c.2.1 with
    | false =>
      simp only [sums_of_at_6, Bool.false_eq_true, if_false, ↓zHd0, zHp0, ↓zGd0, ↓zGd1, ↓zGd2, ↓zGd3, ↓zGd4, zGp0, startD, startC, ↓List.map_cons, ↓List.map_nil, ↓List.length_cons, ↓List.length_nil, Nat.reduceAdd, Nat.reduceSub, Nat.sub_self, List.replicate, ↓List.cons_append, ↓List.nil_append, List.append_nil, ↓List.getElem?_cons_zero, ↓List.getElem?_cons_succ, ↓List.set_cons_zero, ↓List.set_cons_succ, wipeD, Bool.not_true, Bool.not_false, decide_true, decide_false, beq_self_eq_true, true_and, and_true, Nat.reduceLeDiff, toDs, toDk, toDs_sh, ↓zS_ii, ↓zS_bi, ↓zS_ownO]
      exact hA _ _ _ (S.idle lf h0 hb)
    | true =>
      have hp := put_pos lf S.tk rfl
      simp only [sums_of_at_6, if_true, ↓zHd0, zHp0, ↓zGd0, ↓zGd1, ↓zGd2, ↓zGd3, ↓zGd4, zGp0, startD, startC, ↓List.map_cons, ↓List.map_nil, ↓List.length_cons, ↓List.length_nil, Nat.reduceAdd, Nat.reduceSub, Nat.sub_self, List.replicate, ↓List.cons_append, ↓List.nil_append, List.append_nil, ↓List.getElem?_cons_zero, ↓List.getElem?_cons_succ, ↓List.set_cons_zero, ↓List.set_cons_succ, wipeD, Bool.not_true, Bool.not_false, decide_true, decide_false, beq_self_eq_true, true_and, and_true, Nat.reduceLeDiff, toDs, toDk, toDs_sh, ↓zS_ii, ↓zS_bi, ↓zS_ownO]
      rw [decide_eq_true (by omega : (0 : Int) < (c.2.2 : Int))]
      simp only [↓zHd0, zHp0, ↓zGd0, ↓zGd1, ↓zGd2, ↓zGd3, ↓zGd4, zGp0, startD, startC, ↓List.map_cons, ↓List.map_nil, ↓List.length_cons, ↓List.length_nil, Nat.reduceAdd, Nat.reduceSub, Nat.sub_self, List.replicate, ↓List.cons_append, ↓List.nil_append, List.append_nil, ↓List.getElem?_cons_zero, ↓List.getElem?_cons_succ, ↓List.set_cons_zero, ↓List.set_cons_succ, wipeD, Bool.not_true, Bool.not_false, decide_true, decide_false, beq_self_eq_true, true_and, and_true, Nat.reduceLeDiff, toDs, toDk, toDs_sh, ↓zS_ii, ↓zS_bi, ↓zS_ownO]
      exact ⟨by decide, hB c.2.2 hp fun X => S.none lf h0 hb X⟩
theorem mk2_lt {C : Nat} : ∀ (pl : List Nat) (a : Nat), a < 2 ^ C → (∀ p ∈ pl, p < C) → mk2 pl a < 2 ^ C
  | [], a, h, _ => h
  | p :: pl, a, h, hp => mk2_lt pl _ (Nat.xor_lt_two_pow h (Nat.pow_lt_pow_right (by decide) (hp p List.mem_cons_self))) fun q hq => hp q (List.mem_cons_of_mem _ hq)
theorem mask_lt (h : FsOk fs) : mk2 (pls n m x fs 0) 0 < 2 ^ szF fs := mk2_lt _ _ (Nat.two_pow_pos _) fun p hp => by have := pls_lt n m x fs 0 h p hp; omega
theorem sums_f {ys : List (Nat × Nat)} (h : FsOk fs) (hz : szF fs ≤ 40) (hn : n ≤ 8) (hm : m ≤ 8) (hR : R ≤ 6) (hp : ys.Perm (prs n m)) :
    ∀ (xs : List Mt3) (cs : List (Nat × Bool)) (rows : List Row) (o6 o7 o8 o9 o10 o11 : Option SD), Sms (szF fs) cs rows → (∀ x ∈ xs, x.1 < R ∧ x.2.1 < n ∧ x.2.2 < m) → cs.length + xs.length ≤ 900 →
      (∀ rows' o6 o7 o8 o9 o10 o11, Sms (szF fs) (cs ++ xs.map (cst n m R fs l)) rows' → W.nx [some (.sh (.dic (crsD n m R l ys))), some (.sh (fsD fs)), some (.sh (.int n)), some (.sh (.int m)), some (.sh (.int R)), some (.ow v (sumsO rows')), o6, o7, o8, o9, o10, o11]) →
      (∀ (rows' : List Row) (u : Nat), 0 < u → (∀ X, ¬ ∀ z ∈ cs ++ xs.map (cst n m R fs l), sat (szF fs) X (z.1, z.2, 0)) → W.rp [sumsO rows', .sh (.int u)]) →
      forD (gT 2 (gsCons (gN 6) (gsCons (gT 3 (gsCons (gN 7) (gsCons (gN 8) (gsCons (gN 9) gsNil)))) gsNil))) b_sums_of_1 W ((xs.zipIdx cs.length).map fun z => .tup [.int (z.2 : Nat), mtD z.1]) [some (.sh (.dic (crsD n m R l ys))), some (.sh (fsD fs)), some (.sh (.int n)), some (.sh (.int m)), some (.sh (.int R)), some (.ow v (sumsO rows)), o6, o7, o8, o9, o10, o11]
  | [], cs, rows, o6, o7, o8, o9, o10, o11, S, _, _, hA, _ => by
    rw [List.zipIdx_nil, List.map_nil, forD_n]
    rw [List.map_nil, List.append_nil] at hA
    exact hA _ _ _ _ _ _ _ S
  | x :: xs, cs, rows, o6, o7, o8, o9, o10, o11, S, hx, hl, hA, hB => by
    have e : ∀ y, cs ++ (y :: xs.map (cst n m R fs l)) = (cs ++ [y]) ++ xs.map (cst n m R fs l) := fun y => by rw [List.append_assoc]; rfl
    rw [List.map_cons, e] at hA hB
    rw [List.length_cons] at hl
    have ln : (cs ++ [cst n m R fs l x]).length = cs.length + 1 := by rw [List.length_append, List.length_singleton]
    have ih := fun rows' o6 o7 o8 o9 o10 o11 S' => sums_f h hz hn hm hR hp xs (cs ++ [cst n m R fs l x]) rows' o6 o7 o8 o9 o10 o11 S' (fun y hy => hx y (List.mem_cons_of_mem _ hy)) (by rw [ln]; omega) hA hB
    rw [ln] at ih
    rw [List.zipIdx_cons, List.map_cons, forD_c]
    generalize forD (gT 2 (gsCons (gN 6) (gsCons (gT 3 (gsCons (gN 7) (gsCons (gN 8) (gsCons (gN 9) gsNil)))) gsNil))) b_sums_of_1 W ((xs.zipIdx (cs.length + 1)).map fun z => .tup [.int (z.2 : Nat), mtD z.1]) = G at ih ⊢
    simp only [mtD, ↓zHd0, zHp0, ↓zGd0, ↓zGd1, ↓zGd2, ↓zGd3, ↓zGd4, zGp0, startD, startC, ↓List.map_cons, ↓List.map_nil, ↓List.length_cons, ↓List.length_nil, Nat.reduceAdd, Nat.reduceSub, Nat.sub_self, List.replicate, ↓List.cons_append, ↓List.nil_append, List.append_nil, ↓List.getElem?_cons_zero, ↓List.getElem?_cons_succ, ↓List.set_cons_zero, ↓List.set_cons_succ, wipeD, Bool.not_true, Bool.not_false, decide_true, decide_false, beq_self_eq_true, true_and, and_true, Nat.reduceLeDiff, toDs, toDk, toDs_sh, ↓zS_ii, ↓zS_bi, ↓zS_ownO]
    have hb := hx x List.mem_cons_self
    refine sums_1 S h hz hn hm hb hR (by omega) (mask_lt h) (hp.mem_iff.mpr (mem_prs.mpr hb.2)) (fun rows' o10 o11 S' => ?_) fun u hu hX => ?_
    · exact ih _ _ _ _ _ _ _ S'
    · refine hB _ u hu fun X hz2 => hX X fun z hz3 => hz2 z (List.mem_append_left _ hz3)
theorem sums_ok {ys : List (Nat × Nat)} (s : Szs n m R fs) (hp : ys.Perm (prs n m))
    (h1 : ∀ rows, Sms (szF fs) ((mts n m R).map (cst n m R fs l)) rows → QP [sumsO rows, .sh (.int 0)])
    (h2 : ∀ (rows : List Row) (u : Nat), 0 < u → (∀ X, ¬ ∀ z ∈ (mts n m R).map (cst n m R fs l), sat (szF fs) X (z.1, z.2, 0)) → QP [sumsO rows, .sh (.int u)]) : S_sums_of [.dic (crsD n m R l ys), fsD fs] QP := by
  have hb : R * (n * m) ≤ 6 * (8 * 8) := Nat.mul_le_mul s.R6 (Nat.mul_le_mul s.n8 s.m8)
  refine ⟨rfl, ?_⟩
  show t_sums_of _ [some (.sh (.dic (crsD n m R l ys))), some (.sh (fsD fs)), none, none, none, none, none, none, none, none, none, none]
  simp only [t_sums_of, ↓zHd0, zHp0, ↓zGd0, ↓zGd1, ↓zGd2, ↓zGd3, ↓zGd4, zGp0, startD, startC, ↓List.map_cons, ↓List.map_nil, ↓List.length_cons, ↓List.length_nil, Nat.reduceAdd, Nat.reduceSub, Nat.sub_self, List.replicate, ↓List.cons_append, ↓List.nil_append, List.append_nil, ↓List.getElem?_cons_zero, ↓List.getElem?_cons_succ, ↓List.set_cons_zero, ↓List.set_cons_succ, wipeD, Bool.not_true, Bool.not_false, decide_true, decide_false, beq_self_eq_true, true_and, and_true, Nat.reduceLeDiff, toDs, toDk, toDs_sh, ↓zS_ii, ↓zS_bi, ↓zS_ownO]
  refine nums_ok s.n0 s.m0 s.n8 s.m8 s.R6 hp ?_
  simp only [↓zHd0, zHp0, ↓zGd0, ↓zGd1, ↓zGd2, ↓zGd3, ↓zGd4, zGp0, startD, startC, ↓List.map_cons, ↓List.map_nil, ↓List.length_cons, ↓List.length_nil, Nat.reduceAdd, Nat.reduceSub, Nat.sub_self, List.replicate, ↓List.cons_append, ↓List.nil_append, List.append_nil, ↓List.getElem?_cons_zero, ↓List.getElem?_cons_succ, ↓List.set_cons_zero, ↓List.set_cons_succ, wipeD, Bool.not_true, Bool.not_false, decide_true, decide_false, beq_self_eq_true, true_and, and_true, Nat.reduceLeDiff, toDs, toDk, toDs_sh, ↓zS_ii, ↓zS_bi, ↓zS_ownO]
  simp only [sums_of_at_2, ↓zHd0, zHp0, ↓zGd0, ↓zGd1, ↓zGd2, ↓zGd3, ↓zGd4, zGp0, startD, startC, ↓List.map_cons, ↓List.map_nil, ↓List.length_cons, ↓List.length_nil, Nat.reduceAdd, Nat.reduceSub, Nat.sub_self, List.replicate, ↓List.cons_append, ↓List.nil_append, List.append_nil, ↓List.getElem?_cons_zero, ↓List.getElem?_cons_succ, ↓List.set_cons_zero, ↓List.set_cons_succ, wipeD, Bool.not_true, Bool.not_false, decide_true, decide_false, beq_self_eq_true, true_and, and_true, Nat.reduceLeDiff, toDs, toDk, toDs_sh, ↓zS_ii, ↓zS_bi, ↓zS_ownO]
  refine init_ok ?_
  intro v
  simp only [sums_of_at_3, sumsO, ↓zHd0, zHp0, ↓zGd0, ↓zGd1, ↓zGd2, ↓zGd3, ↓zGd4, zGp0, startD, startC, ↓List.map_cons, ↓List.map_nil, ↓List.length_cons, ↓List.length_nil, Nat.reduceAdd, Nat.reduceSub, Nat.sub_self, List.replicate, ↓List.cons_append, ↓List.nil_append, List.append_nil, ↓List.getElem?_cons_zero, ↓List.getElem?_cons_succ, ↓List.set_cons_zero, ↓List.set_cons_succ, wipeD, Bool.not_true, Bool.not_false, decide_true, decide_false, beq_self_eq_true, true_and, and_true, Nat.reduceLeDiff, toDs, toDk, toDs_sh, ↓zS_ii, ↓zS_bi, ↓zS_ownO]
  refine every_ok s.n8 s.m8 s.R6 ?_
  simp only [↓zHd0, zHp0, ↓zGd0, ↓zGd1, ↓zGd2, ↓zGd3, ↓zGd4, zGp0, startD, startC, ↓List.map_cons, ↓List.map_nil, ↓List.length_cons, ↓List.length_nil, Nat.reduceAdd, Nat.reduceSub, Nat.sub_self, List.replicate, ↓List.cons_append, ↓List.nil_append, List.append_nil, ↓List.getElem?_cons_zero, ↓List.getElem?_cons_succ, ↓List.set_cons_zero, ↓List.set_cons_succ, wipeD, Bool.not_true, Bool.not_false, decide_true, decide_false, beq_self_eq_true, true_and, and_true, Nat.reduceLeDiff, toDs, toDk, toDs_sh, ↓zS_ii, ↓zS_bi, ↓zS_ownO]
  have e5 : enumD ((mts n m R).map mtD) = ((mts n m R).zipIdx 0).map fun z => D.tup [.int (z.2 : Nat), mtD z.1] := by
    unfold enumD
    rw [List.zipIdx_map, List.map_map]
    rfl
  rw [e5]
  refine sums_f s.ok s.sz s.n8 s.m8 s.R6 hp (mts n m R) [] [] _ _ _ _ _ _ Sms.nil (fun x hx => mem_mts.mp hx) (by rw [mts_len, List.length_nil]; omega) (fun rows' o6 o7 o8 o9 o10 o11 S' => ?_) fun rows' u hu hX => ?_
  · rw [List.nil_append] at S'
    simp only [sums_of_at_8, ↓zHd0, zHp0, ↓zGd0, ↓zGd1, ↓zGd2, ↓zGd3, ↓zGd4, zGp0, startD, startC, ↓List.map_cons, ↓List.map_nil, ↓List.length_cons, ↓List.length_nil, Nat.reduceAdd, Nat.reduceSub, Nat.sub_self, List.replicate, ↓List.cons_append, ↓List.nil_append, List.append_nil, ↓List.getElem?_cons_zero, ↓List.getElem?_cons_succ, ↓List.set_cons_zero, ↓List.set_cons_succ, wipeD, Bool.not_true, Bool.not_false, decide_true, decide_false, beq_self_eq_true, true_and, and_true, Nat.reduceLeDiff, toDs, toDk, toDs_sh, ↓zS_ii, ↓zS_bi, ↓zS_ownO]
    exact ⟨by decide, h1 rows' S'⟩
  · rw [List.nil_append] at hX
    exact h2 rows' u hu hX
end
section
variable {n m R : Nat} {fs : List Fm} {l : List Bool}
theorem cst_bit {x : Mt3} (hx : x ∈ mts n m R) : (cst n m R fs l x).2 = l.getD (x.1 * (n * m) + (x.2.1 * m + x.2.2)) false := by
  have h1 := (mem_mts.mp hx).1
  unfold cst colT
  rw [List.getD_eq_getElem?_getD, List.getElem?_map, List.getElem?_range h1]
  rfl
theorem l_mts (hl : l.length = R * (n * m)) : ((mts n m R).map fun x => l.getD (x.1 * (n * m) + (x.2.1 * m + x.2.2)) false) = l := getD_ext (by rw [List.length_map, mts_len, hl]) fun k hk => by
  rw [List.length_map] at hk
  rw [List.getD_eq_getElem?_getD, List.getElem?_map, List.getElem?_eq_getElem hk]
  show l.getD _ false = _
  rw [← (mts_at (List.getElem?_eq_getElem hk)).1]
theorem made_iff (h : FsOk fs) (hl : l.length = R * (n * m)) (b : Nat → Bool) : wvn (pss n m R fs) b = l ↔ ∀ z ∈ (mts n m R).map (cst n m R fs l), sat (szF fs) b (z.1, z.2, 0) := by
  have e : wvn (pss n m R fs) b = l ↔ ∀ x ∈ mts n m R, par (pls n m x fs 0) b = l.getD (x.1 * (n * m) + (x.2.1 * m + x.2.2)) false := by
    have : wvn (pss n m R fs) b = l ↔ wvn (pss n m R fs) b = (mts n m R).map fun x => l.getD (x.1 * (n * m) + (x.2.1 * m + x.2.2)) false := by rw [l_mts hl]
    rw [this]
    unfold wvn pss
    rw [List.map_map, List.map_inj_left]
    exact Iff.rfl
  have pm : ∀ x : Mt3, xb (fun c => b c && (mk2 (pls n m x fs 0) 0).testBit c) (szF fs) = par (pls n m x fs 0) b := fun x => par_mk b fun p hp => by have := pls_lt n m x fs 0 h p hp; omega
  rw [e]
  constructor
  · intro q z hz
    obtain ⟨x, hx, rfl⟩ := List.mem_map.mp hz
    show xb _ _ = (cst n m R fs l x).2
    rw [cst_bit hx, ← q x hx]
    exact pm x
  · intro q x hx
    have := q _ (List.mem_map.mpr ⟨x, hx, rfl⟩)
    have : xb (fun c => b c && (mk2 (pls n m x fs 0) 0).testBit c) (szF fs) = (cst n m R fs l x).2 := this
    rw [cst_bit hx, pm x] at this
    exact this
/-- all strings of characters that make a cloth, the least first -/
def evB (n m R : Nat) (fs : List Fm) (l : List Bool) : List (List Bool) := (strB (szF fs)).filter fun s => decide (wvn (pss n m R fs) (bitF s) = l)
theorem ev_nil (h : FsOk fs) (hl : l.length = R * (n * m)) (hX : ∀ X, ¬ ∀ z ∈ (mts n m R).map (cst n m R fs l), sat (szF fs) X (z.1, z.2, 0)) : evB n m R fs l = [] :=
  List.filter_eq_nil_iff.mpr fun s _ hp => hX _ ((made_iff h hl _).mp (of_decide_eq_true hp))
theorem ev_sol (h : FsOk fs) (hl : l.length = R * (n * m)) {rows : List Row} (S : Sms (szF fs) ((mts n m R).map (cst n m R fs l)) rows) (b : Nat → Bool) : wvn (pss n m R fs) b = l ↔ SolR (szF fs) rows b := (made_iff h hl b).trans (S.sol b).symm
theorem ev_num (h : FsOk fs) (hl : l.length = R * (n * m)) {rows : List Row} (S : Sms (szF fs) ((mts n m R).map (cst n m R fs l)) rows) : (evB n m R fs l).length = 2 ^ (szF fs - rows.length) := by
  rw [← sol_num S.ech]
  unfold evB solP
  congr 1
  refine List.filter_congr fun s _ => decide_eq_decide.mpr ((ev_sol h hl S _).trans ?_)
  exact ⟨fun q r hr _ => q r hr, fun q r hr => q r hr (S.ech.lt r hr)⟩
theorem ev_head (h : FsOk fs) (hl : l.length = R * (n * m)) {r0 rows : List Row} {c : List Bool} (S : Sms (szF fs) ((mts n m R).map (cst n m R fs l)) r0) (g : Grd (szF fs) r0 rows c) (hc : c.length = szF fs) : (evB n m R fs l).head? = some c :=
  g.first hc fun s _ => by rw [decide_eq_true_eq]; exact ev_sol h hl S _
/-- a string of characters, cut into words -/
def cutW : List Fm → List Bool → Nat → List (List Bool × List Bool)
  | [], _, _ => []
  | f :: fs, c, a => ((c.drop a).take f.2.1, (c.drop (a + f.2.1)).take f.2.2) :: cutW fs c (a + (f.2.1 + f.2.2))
theorem cutW_len : ∀ (fs : List Fm) (c : List Bool) (a : Nat), (cutW fs c a).length = fs.length
  | [], _, _ => rfl
  | _ :: fs, c, _ => by rw [cutW, List.length_cons, List.length_cons, cutW_len fs c]
def wdD (z : List Bool × List Bool) : D := .obj 0 [.str (bT z.2), .str (bT z.1)]
def shD (z : List Bool × List Bool) : D := .lst [.str (bT z.1), .str (bT z.2)]
def dueD (fs : List Fm) : List (List Bool) → D
  | [] => .non
  | c :: _ => .lst ((cutW fs c 0).map shD)
end
section
variable {n m R N t fresh : Nat} {fs : List Fm} {l s c : List Bool} {r0 rows : List Row} {Q : D → Prop} {QO : OD → Prop} {QP : List OD → Prop} {W : DEnds} {v : V} {o0 o1 o2 o3 o4 o5 o6 o7 o8 o9 o10 o11 o12 o13 : Option SD}
theorem cut_bT {a k : Nat} {i j : Int} (h : a + k ≤ c.length) (hi : i = a) (hj : j = (a : Int) + k) : (⟨(cut (bT c).cps.toList (some i) (some j)).toArray⟩ : Str) = bT ((c.drop a).take k) := by
  subst hi hj
  have e : cut (bT c).cps.toList (some (a : Int)) (some ((a : Int) + (k : Int))) = ((c.drop a).take k).map cB := by
    rw [show (a : Int) + (k : Int) = ((a + k : Nat) : Int) by omega]
    unfold cut
    rw [bT_codes, HT.sIx_nat, HT.sIx_nat, List.length_map, Nat.min_eq_left h, Nat.min_eq_left (show a ≤ c.length by omega), ← List.map_drop, ← List.map_take]
    congr 2
    omega
  rw [e]
  rfl
theorem many_told_ok {ys : List (Nat × Nat)} (S : Szs n m R fs) (hl4 : fs.length ≤ 4) (hl : l.length = R * (n * m)) (hp : ys.Perm (prs n m)) (hq : Q (.int ((evB n m R fs l).length : Nat))) : S_many_told [.dic (crsD n m R l ys), fsD fs] Q := by
  refine ⟨rfl, ?_⟩
  show t_many_told _ [some (.sh (.dic (crsD n m R l ys))), some (.sh (fsD fs)), none, none]
  simp only [t_many_told, ↓zHd0, zHp0, ↓zGd0, ↓zGd1, ↓zGd2, ↓zGd3, ↓zGd4, zGp0, startD, startC, ↓List.map_cons, ↓List.map_nil, ↓List.length_cons, ↓List.length_nil, Nat.reduceAdd, Nat.reduceSub, Nat.sub_self, List.replicate, ↓List.cons_append, ↓List.nil_append, List.append_nil, ↓List.getElem?_cons_zero, ↓List.getElem?_cons_succ, ↓List.set_cons_zero, ↓List.set_cons_succ, wipeD, Bool.not_true, Bool.not_false, decide_true, decide_false, beq_self_eq_true, true_and, and_true, Nat.reduceLeDiff, toDs, toDk, toDs_sh, ↓zS_ii, ↓zS_bi, ↓zS_ownO]
  refine sums_ok S hp (fun rows T => ?_) fun rows u hu hX => ?_
  · intro u v
    show many_told_at_2 _ [_, _, some (.ow u (sumsO rows)), _]
    simp only [many_told_at_2, ↓zHd0, zHp0, ↓zGd0, ↓zGd1, ↓zGd2, ↓zGd3, ↓zGd4, zGp0, startD, startC, ↓List.map_cons, ↓List.map_nil, ↓List.length_cons, ↓List.length_nil, Nat.reduceAdd, Nat.reduceSub, Nat.sub_self, List.replicate, ↓List.cons_append, ↓List.nil_append, List.append_nil, ↓List.getElem?_cons_zero, ↓List.getElem?_cons_succ, ↓List.set_cons_zero, ↓List.set_cons_succ, wipeD, Bool.not_true, Bool.not_false, decide_true, decide_false, beq_self_eq_true, true_and, and_true, Nat.reduceLeDiff, toDs, toDk, toDs_sh, ↓zS_ii, ↓zS_bi, ↓zS_ownO]
    rw [decide_eq_false (by decide : ¬ (0 : Int) < 0), sums_toD]
    simp only [↓zHd0, zHp0, ↓zGd0, ↓zGd1, ↓zGd2, ↓zGd3, ↓zGd4, zGp0, startD, startC, ↓List.map_cons, ↓List.map_nil, ↓List.length_cons, ↓List.length_nil, Nat.reduceAdd, Nat.reduceSub, Nat.sub_self, List.replicate, ↓List.cons_append, ↓List.nil_append, List.append_nil, ↓List.getElem?_cons_zero, ↓List.getElem?_cons_succ, ↓List.set_cons_zero, ↓List.set_cons_succ, wipeD, Bool.not_true, Bool.not_false, decide_true, decide_false, beq_self_eq_true, true_and, and_true, Nat.reduceLeDiff, toDs, toDk, toDs_sh, ↓zS_ii, ↓zS_bi, ↓zS_ownO]
    refine many_ok S.ok hl4 ?_
    refine ⟨rfl, rank_ok ?_⟩
    have rl := rank_le T.ech
    have := S.sz
    simp only [↓zHd0, zHp0, ↓zGd0, ↓zGd1, ↓zGd2, ↓zGd3, ↓zGd4, zGp0, startD, startC, ↓List.map_cons, ↓List.map_nil, ↓List.length_cons, ↓List.length_nil, Nat.reduceAdd, Nat.reduceSub, Nat.sub_self, List.replicate, ↓List.cons_append, ↓List.nil_append, List.append_nil, ↓List.getElem?_cons_zero, ↓List.getElem?_cons_succ, ↓List.set_cons_zero, ↓List.set_cons_succ, wipeD, Bool.not_true, Bool.not_false, decide_true, decide_false, beq_self_eq_true, true_and, and_true, Nat.reduceLeDiff, toDs, toDk, toDs_sh, ↓zS_ii, ↓zS_bi, ↓zS_ownO]
    rw [show ((szF fs : Nat) : Int) - (rows.length : Nat) = ((szF fs - rows.length : Nat) : Int) by omega]
    rw [shl_nat, ← ev_num S.ok hl T]
    exact ⟨cpow1 (by omega), hq⟩
  · intro w v
    show many_told_at_2 _ [_, _, some (.ow w (sumsO rows)), _]
    simp only [many_told_at_2, ↓zHd0, zHp0, ↓zGd0, ↓zGd1, ↓zGd2, ↓zGd3, ↓zGd4, zGp0, startD, startC, ↓List.map_cons, ↓List.map_nil, ↓List.length_cons, ↓List.length_nil, Nat.reduceAdd, Nat.reduceSub, Nat.sub_self, List.replicate, ↓List.cons_append, ↓List.nil_append, List.append_nil, ↓List.getElem?_cons_zero, ↓List.getElem?_cons_succ, ↓List.set_cons_zero, ↓List.set_cons_succ, wipeD, Bool.not_true, Bool.not_false, decide_true, decide_false, beq_self_eq_true, true_and, and_true, Nat.reduceLeDiff, toDs, toDk, toDs_sh, ↓zS_ii, ↓zS_bi, ↓zS_ownO]
    rw [decide_eq_true (by omega : (0 : Int) < (u : Int))]
    simp only [↓zHd0, zHp0, ↓zGd0, ↓zGd1, ↓zGd2, ↓zGd3, ↓zGd4, zGp0, startD, startC, ↓List.map_cons, ↓List.map_nil, ↓List.length_cons, ↓List.length_nil, Nat.reduceAdd, Nat.reduceSub, Nat.sub_self, List.replicate, ↓List.cons_append, ↓List.nil_append, List.append_nil, ↓List.getElem?_cons_zero, ↓List.getElem?_cons_succ, ↓List.set_cons_zero, ↓List.set_cons_succ, wipeD, Bool.not_true, Bool.not_false, decide_true, decide_false, beq_self_eq_true, true_and, and_true, Nat.reduceLeDiff, toDs, toDk, toDs_sh, ↓zS_ii, ↓zS_bi, ↓zS_ownO]
    rw [ev_nil S.ok hl hX] at hq
    exact hq
theorem told_1 (g : Grd N r0 rows s) (hN : N ≤ 40) (hs : s.length < N) (hf : fresh ≤ 400) (hm : Mk0 (fresh + s.length) rows)
    (hA : ∀ (rows' : List Row) (b : Bool), Grd N r0 rows' (s ++ [b]) → Mk0 (fresh + (s.length + 1)) rows' → W.nx [o0, o1, some (.ow v (sumsO rows')), o3, some (.sh (.str (bT (s ++ [b])))), some (.sh (.int fresh)), some (.sh (.int s.length)), o7, o8, o9, o10, o11]) :
    b_told_back_1 W [o0, o1, some (.ow v (sumsO rows)), o3, some (.sh (.str (bT s))), some (.sh (.int fresh)), some (.sh (.int s.length)), o7, o8, o9, o10, o11] := by
  simp only [b_told_back_1, ↓zHd0, zHp0, ↓zGd0, ↓zGd1, ↓zGd2, ↓zGd3, ↓zGd4, zGp0, startD, startC, ↓List.map_cons, ↓List.map_nil, ↓List.length_cons, ↓List.length_nil, Nat.reduceAdd, Nat.reduceSub, Nat.sub_self, List.replicate, ↓List.cons_append, ↓List.nil_append, List.append_nil, ↓List.getElem?_cons_zero, ↓List.getElem?_cons_succ, ↓List.set_cons_zero, ↓List.set_cons_succ, wipeD, Bool.not_true, Bool.not_false, decide_true, decide_false, beq_self_eq_true, true_and, and_true, Nat.reduceLeDiff, toDs, toDk, toDs_sh, ↓zS_ii, ↓zS_bi, ↓zS_ownO]
  refine ⟨rfl, cpow1 (by omega), ?_, ?_⟩
  · rw [show (fresh : Int) + (s.length : Int) = ((fresh + s.length : Nat) : Int) by omega]
    exact cpow1 (by omega)
  rw [show (fresh : Int) + (s.length : Int) = ((fresh + s.length : Nat) : Int) by omega, shl_nat, shl_nat]
  have e0 : oIAdd (.str (bT s)) (.str (Str.ofString "0")) = oIAdd (.str (bT s)) (.str (bT [false])) := rfl
  have e1 : oIAdd (.str (bT s)) (.str (Str.ofString "1")) = oIAdd (.str (bT s)) (.str (bT [true])) := rfl
  have hz : ∀ b, (bT s).length + (bT [b]).length ≤ sizeLine := fun b => by rw [bT_len, bT_len, List.length_singleton, sizeLine_eq]; omega
  refine put_ok (o := (2 ^ s.length, false, 2 ^ (fresh + s.length))) g.ech hN (Nat.pow_lt_pow_right (by decide) hs) (Nat.le_trans (rank_le g.ech) (by omega)) (fun c lf h0 E => ?_) fun c lf h0 => ?_
  · simp only [↓zHd0, zHp0, ↓zGd0, ↓zGd1, ↓zGd2, ↓zGd3, ↓zGd4, zGp0, startD, startC, ↓List.map_cons, ↓List.map_nil, ↓List.length_cons, ↓List.length_nil, Nat.reduceAdd, Nat.reduceSub, Nat.sub_self, List.replicate, ↓List.cons_append, ↓List.nil_append, List.append_nil, ↓List.getElem?_cons_zero, ↓List.getElem?_cons_succ, ↓List.set_cons_zero, ↓List.set_cons_succ, wipeD, Bool.not_true, Bool.not_false, decide_true, decide_false, beq_self_eq_true, true_and, and_true, Nat.reduceLeDiff, toDs, toDk, toDs_sh, ↓zS_ii, ↓zS_bi, ↓zS_ownO]
    rw [decide_eq_false (by decide : ¬ (0 : Int) < 0)]
    simp only [↓zHd0, zHp0, ↓zGd0, ↓zGd1, ↓zGd2, ↓zGd3, ↓zGd4, zGp0, startD, startC, ↓List.map_cons, ↓List.map_nil, ↓List.length_cons, ↓List.length_nil, Nat.reduceAdd, Nat.reduceSub, Nat.sub_self, List.replicate, ↓List.cons_append, ↓List.nil_append, List.append_nil, ↓List.getElem?_cons_zero, ↓List.getElem?_cons_succ, ↓List.set_cons_zero, ↓List.set_cons_succ, wipeD, Bool.not_true, Bool.not_false, decide_true, decide_false, beq_self_eq_true, true_and, and_true, Nat.reduceLeDiff, toDs, toDk, toDs_sh, ↓zS_ii, ↓zS_bi, ↓zS_ownO]
    rw [show Str.ofString "0" = bT [false] from rfl, bT_app]
    exact ⟨hz _, hA _ _ (g.put hs lf E) (hm.snoc lf rfl)⟩
  · cases hb : c.2.1 with
    | false =>
      simp only [Bool.false_eq_true, if_false, ↓zHd0, zHp0, ↓zGd0, ↓zGd1, ↓zGd2, ↓zGd3, ↓zGd4, zGp0, startD, startC, ↓List.map_cons, ↓List.map_nil, ↓List.length_cons, ↓List.length_nil, Nat.reduceAdd, Nat.reduceSub, Nat.sub_self, List.replicate, ↓List.cons_append, ↓List.nil_append, List.append_nil, ↓List.getElem?_cons_zero, ↓List.getElem?_cons_succ, ↓List.set_cons_zero, ↓List.set_cons_succ, wipeD, Bool.not_true, Bool.not_false, decide_true, decide_false, beq_self_eq_true, true_and, and_true, Nat.reduceLeDiff, toDs, toDk, toDs_sh, ↓zS_ii, ↓zS_bi, ↓zS_ownO]
      rw [decide_eq_false (by decide : ¬ (0 : Int) < 0)]
      simp only [↓zHd0, zHp0, ↓zGd0, ↓zGd1, ↓zGd2, ↓zGd3, ↓zGd4, zGp0, startD, startC, ↓List.map_cons, ↓List.map_nil, ↓List.length_cons, ↓List.length_nil, Nat.reduceAdd, Nat.reduceSub, Nat.sub_self, List.replicate, ↓List.cons_append, ↓List.nil_append, List.append_nil, ↓List.getElem?_cons_zero, ↓List.getElem?_cons_succ, ↓List.set_cons_zero, ↓List.set_cons_succ, wipeD, Bool.not_true, Bool.not_false, decide_true, decide_false, beq_self_eq_true, true_and, and_true, Nat.reduceLeDiff, toDs, toDk, toDs_sh, ↓zS_ii, ↓zS_bi, ↓zS_ownO]
      rw [show Str.ofString "0" = bT [false] from rfl, bT_app]
      exact ⟨hz _, hA _ _ (g.idle hs lf h0 hb) (hm.up (by omega))⟩
    | true =>
      have hp := put_pos lf hm rfl
      simp only [if_true, ↓zHd0, zHp0, ↓zGd0, ↓zGd1, ↓zGd2, ↓zGd3, ↓zGd4, zGp0, startD, startC, ↓List.map_cons, ↓List.map_nil, ↓List.length_cons, ↓List.length_nil, Nat.reduceAdd, Nat.reduceSub, Nat.sub_self, List.replicate, ↓List.cons_append, ↓List.nil_append, List.append_nil, ↓List.getElem?_cons_zero, ↓List.getElem?_cons_succ, ↓List.set_cons_zero, ↓List.set_cons_succ, wipeD, Bool.not_true, Bool.not_false, decide_true, decide_false, beq_self_eq_true, true_and, and_true, Nat.reduceLeDiff, toDs, toDk, toDs_sh, ↓zS_ii, ↓zS_bi, ↓zS_ownO]
      rw [decide_eq_true (by omega : (0 : Int) < (c.2.2 : Int))]
      simp only [↓zHd0, zHp0, ↓zGd0, ↓zGd1, ↓zGd2, ↓zGd3, ↓zGd4, zGp0, startD, startC, ↓List.map_cons, ↓List.map_nil, ↓List.length_cons, ↓List.length_nil, Nat.reduceAdd, Nat.reduceSub, Nat.sub_self, List.replicate, ↓List.cons_append, ↓List.nil_append, List.append_nil, ↓List.getElem?_cons_zero, ↓List.getElem?_cons_succ, ↓List.set_cons_zero, ↓List.set_cons_succ, wipeD, Bool.not_true, Bool.not_false, decide_true, decide_false, beq_self_eq_true, true_and, and_true, Nat.reduceLeDiff, toDs, toDk, toDs_sh, ↓zS_ii, ↓zS_bi, ↓zS_ownO]
      rw [show Str.ofString "1" = bT [true] from rfl, bT_app]
      exact ⟨hz _, hA _ _ (g.one hs lf h0 hb) (hm.up (by omega))⟩
theorem word_mk {e a : List Bool} {Q : List D → Prop} (ha : 0 < a.length) (he : e.length ≤ 900) (hz : a.length ≤ 900) (hq : Q [.str (bT a), .str (bT e)]) : S_Word___init__ [.str (bT e), .str (bT a)] Q := by
  have b : ∀ l : List Bool, bitsOk (bT l) = true := fun l => bits_codes (by
    rw [List.all_map, List.all_eq_true]
    intro b _
    cases b <;> rfl)
  exact ⟨⟨b e, b a, by rw [bT_len]; exact ha, by rw [bT_len]; omega, by rw [bT_len]; omega⟩, hq⟩
theorem told_f (hN : N ≤ 40) (hf : fresh ≤ 400) : ∀ (k : Nat) (s : List Bool) (rows : List Row) (o6 : Option SD), Grd N r0 rows s → s.length + k = N → Mk0 (fresh + s.length) rows →
    (∀ (rows' : List Row) (c : List Bool) o6, Grd N r0 rows' c → c.length = N → W.nx [o0, o1, some (.ow v (sumsO rows')), o3, some (.sh (.str (bT c))), some (.sh (.int fresh)), o6, o7, o8, o9, o10, o11]) →
    forD (gN 6) b_told_back_1 W (ups (s.length : Nat) k) [o0, o1, some (.ow v (sumsO rows)), o3, some (.sh (.str (bT s))), some (.sh (.int fresh)), o6, o7, o8, o9, o10, o11]
  | 0, s, rows, o6, g, hs, _, hA => by
    rw [ups_zero, forD_n]
    exact hA _ _ _ g hs
  | k + 1, s, rows, o6, g, hs, hm, hA => by
    have ih := fun s' rows' o6 g' hs' hm' => told_f hN hf k s' rows' o6 g' hs' hm' hA
    rw [ups_succ, forD_c, show ((s.length : Nat) : Int) + 1 = ((s.length + 1 : Nat) : Int) by omega]
    have ln : ∀ b : Bool, (s ++ [b]).length = s.length + 1 := fun b => by rw [List.length_append, List.length_singleton]
    have ih2 := fun (b : Bool) rows' o6 g' hm' => ih (s ++ [b]) rows' o6 g' (by rw [ln]; omega) hm'
    simp only [ln] at ih2
    generalize forD (gN 6) b_told_back_1 W (ups ((s.length + 1 : Nat) : Int) k) = G at ih2 ⊢
    simp only [↓zHd0, zHp0, ↓zGd0, ↓zGd1, ↓zGd2, ↓zGd3, ↓zGd4, zGp0, startD, startC, ↓List.map_cons, ↓List.map_nil, ↓List.length_cons, ↓List.length_nil, Nat.reduceAdd, Nat.reduceSub, Nat.sub_self, List.replicate, ↓List.cons_append, ↓List.nil_append, List.append_nil, ↓List.getElem?_cons_zero, ↓List.getElem?_cons_succ, ↓List.set_cons_zero, ↓List.set_cons_succ, wipeD, Bool.not_true, Bool.not_false, decide_true, decide_false, beq_self_eq_true, true_and, and_true, Nat.reduceLeDiff, toDs, toDk, toDs_sh, ↓zS_ii, ↓zS_bi, ↓zS_ownO]
    refine told_1 g hN (by omega) hf hm fun rows' b g' hm' => ?_
    exact ih2 b rows' _ g' hm'
theorem wds_1 : ∀ (fs : List Fm) (a : Nat) (acc : List (List Bool × List Bool)) (o9 o10 o11 : Option SD), FsOk fs → a + szF fs ≤ c.length → c.length ≤ 900 → acc.length + fs.length ≤ 900 →
    (∀ o8 o9 o10 o11, W.nx [o0, o1, o2, o3, some (.sh (.str (bT c))), o5, o6, some (.ow v (.lst ((acc ++ cutW fs c a).map fun z => .sh (wdD z)))), o8, o9, o10, o11]) →
    forD (gT 3 (gsCons (gN 9) (gsCons (gN 10) (gsCons (gN 11) gsNil)))) b_told_back_2 W (fs.map fmD) [o0, o1, o2, o3, some (.sh (.str (bT c))), o5, o6, some (.ow v (.lst (acc.map fun z => .sh (wdD z)))), some (.sh (.int a)), o9, o10, o11]
  | [], a, acc, o9, o10, o11, _, _, _, _, hN => by
    rw [List.map_nil, forD_n]
    rw [cutW, List.append_nil] at hN
    exact hN _ _ _ _
  | f :: fs, a, acc, o9, o10, o11, hfs, ha, hc, hl, hN => by
    rw [List.length_cons] at hl
    have hz : szF (f :: fs) = (f.2.1 + f.2.2) + szF fs := rfl
    have hf := hfs f List.mem_cons_self
    have e : acc ++ cutW (f :: fs) c a = (acc ++ [((c.drop a).take f.2.1, (c.drop (a + f.2.1)).take f.2.2)]) ++ cutW fs c (a + (f.2.1 + f.2.2)) := by rw [cutW, List.append_assoc]; rfl
    rw [e] at hN
    have ih := fun o9 o10 o11 => wds_1 fs (a + (f.2.1 + f.2.2)) (acc ++ [((c.drop a).take f.2.1, (c.drop (a + f.2.1)).take f.2.2)]) o9 o10 o11 (fun g hg => hfs g (List.mem_cons_of_mem _ hg)) (by omega) hc (by rw [List.length_append, List.length_singleton]; omega) hN
    rw [List.map_cons, forD_c]
    generalize forD (gT 3 (gsCons (gN 9) (gsCons (gN 10) (gsCons (gN 11) gsNil)))) b_told_back_2 W (fs.map fmD) = G at ih ⊢
    simp only [fmD, b_told_back_2, ↓zHd0, zHp0, ↓zGd0, ↓zGd1, ↓zGd2, ↓zGd3, ↓zGd4, zGp0, startD, startC, ↓List.map_cons, ↓List.map_nil, ↓List.length_cons, ↓List.length_nil, Nat.reduceAdd, Nat.reduceSub, Nat.sub_self, List.replicate, ↓List.cons_append, ↓List.nil_append, List.append_nil, ↓List.getElem?_cons_zero, ↓List.getElem?_cons_succ, ↓List.set_cons_zero, ↓List.set_cons_succ, wipeD, Bool.not_true, Bool.not_false, decide_true, decide_false, beq_self_eq_true, true_and, and_true, Nat.reduceLeDiff, toDs, toDk, toDs_sh, ↓zS_ii, ↓zS_bi, ↓zS_ownO]
    rw [cut_bT (a := a) (k := f.2.1) (by omega) rfl rfl, cut_bT (a := a + f.2.1) (k := f.2.2) (by omega) (by omega) (by omega)]
    refine ⟨by rw [bT_len, sizeLine_eq]; omega, by rw [bT_len, sizeLine_eq]; omega, ?_⟩
    refine word_mk (by rw [List.length_take, List.length_drop]; omega) (by rw [List.length_take, List.length_drop]; omega) (by rw [List.length_take, List.length_drop]; omega) ?_
    refine ⟨by rw [List.length_map, sizeLine_eq]; omega, ?_⟩
    have e2 : (acc.map fun z => OD.sh (wdD z)) ++ [OD.sh (D.obj 0 [D.str (bT ((c.drop (a + f.2.1)).take f.2.2)), D.str (bT ((c.drop a).take f.2.1))])] = (acc ++ [((c.drop a).take f.2.1, (c.drop (a + f.2.1)).take f.2.2)]).map fun z => OD.sh (wdD z) := by
      rw [List.map_append]
      rfl
    rw [e2]
    simp only [told_back_at_10, ↓zHd0, zHp0, ↓zGd0, ↓zGd1, ↓zGd2, ↓zGd3, ↓zGd4, zGp0, startD, startC, ↓List.map_cons, ↓List.map_nil, ↓List.length_cons, ↓List.length_nil, Nat.reduceAdd, Nat.reduceSub, Nat.sub_self, List.replicate, ↓List.cons_append, ↓List.nil_append, List.append_nil, ↓List.getElem?_cons_zero, ↓List.getElem?_cons_succ, ↓List.set_cons_zero, ↓List.set_cons_succ, wipeD, Bool.not_true, Bool.not_false, decide_true, decide_false, beq_self_eq_true, true_and, and_true, Nat.reduceLeDiff, toDs, toDk, toDs_sh, ↓zS_ii, ↓zS_bi, ↓zS_ownO]
    rw [show (a : Int) + ((f.2.1 : Int) + (f.2.2 : Int)) = ((a + (f.2.1 + f.2.2) : Nat) : Int) by omega]
    exact ih _ _ _
theorem told_ok {ys : List (Nat × Nat)} (S : Szs n m R fs) (hl4 : fs.length ≤ 4) (hl : l.length = R * (n * m)) (hp : ys.Perm (prs n m)) (h0 : evB n m R fs l = [] → QO (.sh .non))
    (h1 : ∀ c ev, evB n m R fs l = c :: ev → c.length = szF fs → QO (.lst ((cutW fs c 0).map fun z => .sh (wdD z)))) : S_told_back [.dic (crsD n m R l ys), fsD fs] QO := by
  have hb0 : n * m ≤ 8 * 8 := Nat.mul_le_mul S.n8 S.m8
  have hb : R * (n * m) ≤ 6 * (8 * 8) := Nat.mul_le_mul S.R6 hb0
  have len : ys.length = n * m := by rw [hp.length_eq, prs_len]
  refine ⟨rfl, ?_⟩
  show t_told_back _ [some (.sh (.dic (crsD n m R l ys))), some (.sh (fsD fs)), none, none, none, none, none, none, none, none, none, none]
  simp only [t_told_back, ↓zHd0, zHp0, ↓zGd0, ↓zGd1, ↓zGd2, ↓zGd3, ↓zGd4, zGp0, startD, startC, ↓List.map_cons, ↓List.map_nil, ↓List.length_cons, ↓List.length_nil, Nat.reduceAdd, Nat.reduceSub, Nat.sub_self, List.replicate, ↓List.cons_append, ↓List.nil_append, List.append_nil, ↓List.getElem?_cons_zero, ↓List.getElem?_cons_succ, ↓List.set_cons_zero, ↓List.set_cons_succ, wipeD, Bool.not_true, Bool.not_false, decide_true, decide_false, beq_self_eq_true, true_and, and_true, Nat.reduceLeDiff, toDs, toDk, toDs_sh, ↓zS_ii, ↓zS_bi, ↓zS_ownO]
  refine sums_ok S hp (fun rows T => ?_) fun rows u hu hX => ?_
  · intro u v
    show told_back_at_2 _ [_, _, some (.ow u (sumsO rows)), _, _, _, _, _, _, _, _, _]
    simp only [told_back_at_2, ↓zHd0, zHp0, ↓zGd0, ↓zGd1, ↓zGd2, ↓zGd3, ↓zGd4, zGp0, startD, startC, ↓List.map_cons, ↓List.map_nil, ↓List.length_cons, ↓List.length_nil, Nat.reduceAdd, Nat.reduceSub, Nat.sub_self, List.replicate, ↓List.cons_append, ↓List.nil_append, List.append_nil, ↓List.getElem?_cons_zero, ↓List.getElem?_cons_succ, ↓List.set_cons_zero, ↓List.set_cons_succ, wipeD, Bool.not_true, Bool.not_false, decide_true, decide_false, beq_self_eq_true, true_and, and_true, Nat.reduceLeDiff, toDs, toDk, toDs_sh, ↓zS_ii, ↓zS_bi, ↓zS_ownO]
    rw [decide_eq_false (by decide : ¬ (0 : Int) < 0)]
    simp only [↓zHd0, zHp0, ↓zGd0, ↓zGd1, ↓zGd2, ↓zGd3, ↓zGd4, zGp0, startD, startC, ↓List.map_cons, ↓List.map_nil, ↓List.length_cons, ↓List.length_nil, Nat.reduceAdd, Nat.reduceSub, Nat.sub_self, List.replicate, ↓List.cons_append, ↓List.nil_append, List.append_nil, ↓List.getElem?_cons_zero, ↓List.getElem?_cons_succ, ↓List.set_cons_zero, ↓List.set_cons_succ, wipeD, Bool.not_true, Bool.not_false, decide_true, decide_false, beq_self_eq_true, true_and, and_true, Nat.reduceLeDiff, toDs, toDk, toDs_sh, ↓zS_ii, ↓zS_bi, ↓zS_ownO]
    simp only [told_back_at_4, ↓zHd0, zHp0, ↓zGd0, ↓zGd1, ↓zGd2, ↓zGd3, ↓zGd4, zGp0, startD, startC, ↓List.map_cons, ↓List.map_nil, ↓List.length_cons, ↓List.length_nil, Nat.reduceAdd, Nat.reduceSub, Nat.sub_self, List.replicate, ↓List.cons_append, ↓List.nil_append, List.append_nil, ↓List.getElem?_cons_zero, ↓List.getElem?_cons_succ, ↓List.set_cons_zero, ↓List.set_cons_succ, wipeD, Bool.not_true, Bool.not_false, decide_true, decide_false, beq_self_eq_true, true_and, and_true, Nat.reduceLeDiff, toDs, toDk, toDs_sh, ↓zS_ii, ↓zS_bi, ↓zS_ownO]
    rw [show D.tup [.int 0, .int 0] = key2 (0, 0) from rfl]
    refine gtK_of (look_crs (hp.mem_iff.mpr (mem_prs.mpr ⟨S.n0, S.m0⟩))) ?_
    simp only [↓zHd0, zHp0, ↓zGd0, ↓zGd1, ↓zGd2, ↓zGd3, ↓zGd4, zGp0, startD, startC, ↓List.map_cons, ↓List.map_nil, ↓List.length_cons, ↓List.length_nil, Nat.reduceAdd, Nat.reduceSub, Nat.sub_self, List.replicate, ↓List.cons_append, ↓List.nil_append, List.append_nil, ↓List.getElem?_cons_zero, ↓List.getElem?_cons_succ, ↓List.set_cons_zero, ↓List.set_cons_succ, wipeD, Bool.not_true, Bool.not_false, decide_true, decide_false, beq_self_eq_true, true_and, and_true, Nat.reduceLeDiff, toDs, toDk, toDs_sh, ↓zS_ii, ↓zS_bi, ↓zS_ownO]
    rw [bT_len, colT_len]
    have cl : (crsD n m R l ys).length = n * m := by unfold crsD; rw [List.length_map, len]
    rw [cl]
    have e1 : ((n * m : Nat) : Int) * (R : Int) = ((R * (n * m) : Nat) : Int) := by rw [Int.natCast_mul R, Int.mul_comm]
    refine ⟨by have := S.R6; rw [sizeLine_eq]; omega, .inl (.inl ⟨by omega, by omega⟩), ?_⟩
    rw [e1]
    simp only [told_back_at_5, ↓zHd0, zHp0, ↓zGd0, ↓zGd1, ↓zGd2, ↓zGd3, ↓zGd4, zGp0, startD, startC, ↓List.map_cons, ↓List.map_nil, ↓List.length_cons, ↓List.length_nil, Nat.reduceAdd, Nat.reduceSub, Nat.sub_self, List.replicate, ↓List.cons_append, ↓List.nil_append, List.append_nil, ↓List.getElem?_cons_zero, ↓List.getElem?_cons_succ, ↓List.set_cons_zero, ↓List.set_cons_succ, wipeD, Bool.not_true, Bool.not_false, decide_true, decide_false, beq_self_eq_true, true_and, and_true, Nat.reduceLeDiff, toDs, toDk, toDs_sh, ↓zS_ii, ↓zS_bi, ↓zS_ownO]
    refine many_ok S.ok hl4 ?_
    simp only [↓zHd0, zHp0, ↓zGd0, ↓zGd1, ↓zGd2, ↓zGd3, ↓zGd4, zGp0, startD, startC, ↓List.map_cons, ↓List.map_nil, ↓List.length_cons, ↓List.length_nil, Nat.reduceAdd, Nat.reduceSub, Nat.sub_self, List.replicate, ↓List.cons_append, ↓List.nil_append, List.append_nil, ↓List.getElem?_cons_zero, ↓List.getElem?_cons_succ, ↓List.set_cons_zero, ↓List.set_cons_succ, wipeD, Bool.not_true, Bool.not_false, decide_true, decide_false, beq_self_eq_true, true_and, and_true, Nat.reduceLeDiff, toDs, toDk, toDs_sh, ↓zS_ii, ↓zS_bi, ↓zS_ownO]
    have sz := S.sz
    refine ⟨⟨by omega, by omega⟩, ?_⟩
    rw [Int.toNat_natCast]
    refine told_f (fresh := R * (n * m)) S.sz (by omega) (szF fs) [] rows _ (Grd.nil T.ech) (by rw [List.length_nil, Nat.zero_add]) (by
      have := T.tk
      rw [List.length_map, mts_len] at this
      exact this) fun rows' c o6 g hc => ?_
    have hev := ev_head S.ok hl T g hc
    have ⟨ev, hev⟩ : ∃ ev, evB n m R fs l = c :: ev := by
      cases q : evB n m R fs l with
      | nil => rw [q] at hev; cases hev
      | cons a ev => rw [q] at hev; cases hev; exact ⟨ev, rfl⟩
    simp only [told_back_at_7, ↓zHd0, zHp0, ↓zGd0, ↓zGd1, ↓zGd2, ↓zGd3, ↓zGd4, zGp0, startD, startC, ↓List.map_cons, ↓List.map_nil, ↓List.length_cons, ↓List.length_nil, Nat.reduceAdd, Nat.reduceSub, Nat.sub_self, List.replicate, ↓List.cons_append, ↓List.nil_append, List.append_nil, ↓List.getElem?_cons_zero, ↓List.getElem?_cons_succ, ↓List.set_cons_zero, ↓List.set_cons_succ, wipeD, Bool.not_true, Bool.not_false, decide_true, decide_false, beq_self_eq_true, true_and, and_true, Nat.reduceLeDiff, toDs, toDk, toDs_sh, ↓zS_ii, ↓zS_bi, ↓zS_ownO]
    intro u v
    simp only [told_back_at_8, ↓zHd0, zHp0, ↓zGd0, ↓zGd1, ↓zGd2, ↓zGd3, ↓zGd4, zGp0, startD, startC, ↓List.map_cons, ↓List.map_nil, ↓List.length_cons, ↓List.length_nil, Nat.reduceAdd, Nat.reduceSub, Nat.sub_self, List.replicate, ↓List.cons_append, ↓List.nil_append, List.append_nil, ↓List.getElem?_cons_zero, ↓List.getElem?_cons_succ, ↓List.set_cons_zero, ↓List.set_cons_succ, wipeD, Bool.not_true, Bool.not_false, decide_true, decide_false, beq_self_eq_true, true_and, and_true, Nat.reduceLeDiff, toDs, toDk, toDs_sh, ↓zS_ii, ↓zS_bi, ↓zS_ownO]
    refine wds_1 fs 0 [] _ _ _ S.ok (by omega) (by omega) (by rw [List.length_nil]; omega) fun o8 o9 o10 o11 => ?_
    rw [List.nil_append]
    simp only [told_back_at_11, ↓zHd0, zHp0, ↓zGd0, ↓zGd1, ↓zGd2, ↓zGd3, ↓zGd4, zGp0, startD, startC, ↓List.map_cons, ↓List.map_nil, ↓List.length_cons, ↓List.length_nil, Nat.reduceAdd, Nat.reduceSub, Nat.sub_self, List.replicate, ↓List.cons_append, ↓List.nil_append, List.append_nil, ↓List.getElem?_cons_zero, ↓List.getElem?_cons_succ, ↓List.set_cons_zero, ↓List.set_cons_succ, wipeD, Bool.not_true, Bool.not_false, decide_true, decide_false, beq_self_eq_true, true_and, and_true, Nat.reduceLeDiff, toDs, toDk, toDs_sh, ↓zS_ii, ↓zS_bi, ↓zS_ownO]
    exact h1 c ev hev hc
  · intro w v
    show told_back_at_2 _ [_, _, some (.ow w (sumsO rows)), _, _, _, _, _, _, _, _, _]
    simp only [told_back_at_2, ↓zHd0, zHp0, ↓zGd0, ↓zGd1, ↓zGd2, ↓zGd3, ↓zGd4, zGp0, startD, startC, ↓List.map_cons, ↓List.map_nil, ↓List.length_cons, ↓List.length_nil, Nat.reduceAdd, Nat.reduceSub, Nat.sub_self, List.replicate, ↓List.cons_append, ↓List.nil_append, List.append_nil, ↓List.getElem?_cons_zero, ↓List.getElem?_cons_succ, ↓List.set_cons_zero, ↓List.set_cons_succ, wipeD, Bool.not_true, Bool.not_false, decide_true, decide_false, beq_self_eq_true, true_and, and_true, Nat.reduceLeDiff, toDs, toDk, toDs_sh, ↓zS_ii, ↓zS_bi, ↓zS_ownO]
    rw [decide_eq_true (by omega : (0 : Int) < (u : Int))]
    simp only [↓zHd0, zHp0, ↓zGd0, ↓zGd1, ↓zGd2, ↓zGd3, ↓zGd4, zGp0, startD, startC, ↓List.map_cons, ↓List.map_nil, ↓List.length_cons, ↓List.length_nil, Nat.reduceAdd, Nat.reduceSub, Nat.sub_self, List.replicate, ↓List.cons_append, ↓List.nil_append, List.append_nil, ↓List.getElem?_cons_zero, ↓List.getElem?_cons_succ, ↓List.set_cons_zero, ↓List.set_cons_succ, wipeD, Bool.not_true, Bool.not_false, decide_true, decide_false, beq_self_eq_true, true_and, and_true, Nat.reduceLeDiff, toDs, toDk, toDs_sh, ↓zS_ii, ↓zS_bi, ↓zS_ownO]
    exact h0 (ev_nil S.ok hl hX)
end
section
variable {n m R : Nat} {fs : List Fm} {l c : List Bool} {Q : D → Prop} {QO : OD → Prop} {W : DEnds} {v : V} {o0 o1 o2 o3 o4 o5 o6 o7 o8 o9 o10 o11 o12 o13 : Option SD}
theorem cut_1 : ∀ (fs : List Fm) (a : Nat) (acc : List (List Bool × List Bool)) (o4 o5 o6 : Option SD), a + szF fs ≤ c.length → c.length ≤ 900 → acc.length + fs.length ≤ 900 →
    (∀ o3 o4 o5 o6, W.nx [o0, some (.sh (.str (bT c))), some (.ow v (.lst ((acc ++ cutW fs c a).map fun z => .sh (shD z)))), o3, o4, o5, o6]) →
    forD (gT 3 (gsCons (gN 4) (gsCons (gN 5) (gsCons (gN 6) gsNil)))) b__law_my_cut_1 W (fs.map fmD) [o0, some (.sh (.str (bT c))), some (.ow v (.lst (acc.map fun z => .sh (shD z)))), some (.sh (.int a)), o4, o5, o6]
  | [], a, acc, o4, o5, o6, _, _, _, hN => by
    rw [List.map_nil, forD_n]
    rw [cutW, List.append_nil] at hN
    exact hN _ _ _ _
  | f :: fs, a, acc, o4, o5, o6, ha, hc, hl, hN => by
    rw [List.length_cons] at hl
    have hz : szF (f :: fs) = (f.2.1 + f.2.2) + szF fs := rfl
    have e : acc ++ cutW (f :: fs) c a = (acc ++ [((c.drop a).take f.2.1, (c.drop (a + f.2.1)).take f.2.2)]) ++ cutW fs c (a + (f.2.1 + f.2.2)) := by rw [cutW, List.append_assoc]; rfl
    rw [e] at hN
    have ih := fun o4 o5 o6 => cut_1 fs (a + (f.2.1 + f.2.2)) (acc ++ [((c.drop a).take f.2.1, (c.drop (a + f.2.1)).take f.2.2)]) o4 o5 o6 (by omega) hc (by rw [List.length_append, List.length_singleton]; omega) hN
    rw [List.map_cons, forD_c]
    generalize forD (gT 3 (gsCons (gN 4) (gsCons (gN 5) (gsCons (gN 6) gsNil)))) b__law_my_cut_1 W (fs.map fmD) = G at ih ⊢
    simp only [fmD, b__law_my_cut_1, ↓zHd0, zHp0, ↓zGd0, ↓zGd1, ↓zGd2, ↓zGd3, ↓zGd4, zGp0, startD, startC, ↓List.map_cons, ↓List.map_nil, ↓List.length_cons, ↓List.length_nil, Nat.reduceAdd, Nat.reduceSub, Nat.sub_self, List.replicate, ↓List.cons_append, ↓List.nil_append, List.append_nil, ↓List.getElem?_cons_zero, ↓List.getElem?_cons_succ, ↓List.set_cons_zero, ↓List.set_cons_succ, wipeD, Bool.not_true, Bool.not_false, decide_true, decide_false, beq_self_eq_true, true_and, and_true, Nat.reduceLeDiff, toDs, toDk, toDs_sh, ↓zS_ii, ↓zS_bi, ↓zS_ownO]
    rw [cut_bT (a := a) (k := f.2.1) (by omega) rfl rfl, cut_bT (a := a + f.2.1) (k := f.2.2) (by omega) (by omega) (by omega)]
    refine ⟨by rw [bT_len, sizeLine_eq]; omega, by rw [bT_len, sizeLine_eq]; omega, by rw [List.length_map, sizeLine_eq]; omega, ?_⟩
    have e2 : (acc.map fun z => OD.sh (shD z)) ++ [OD.sh (D.lst [D.str (bT ((c.drop a).take f.2.1)), D.str (bT ((c.drop (a + f.2.1)).take f.2.2))])] = (acc ++ [((c.drop a).take f.2.1, (c.drop (a + f.2.1)).take f.2.2)]).map fun z => OD.sh (shD z) := by
      rw [List.map_append]
      rfl
    rw [e2]
    simp only [_law_my_cut_at_4, ↓zHd0, zHp0, ↓zGd0, ↓zGd1, ↓zGd2, ↓zGd3, ↓zGd4, zGp0, startD, startC, ↓List.map_cons, ↓List.map_nil, ↓List.length_cons, ↓List.length_nil, Nat.reduceAdd, Nat.reduceSub, Nat.sub_self, List.replicate, ↓List.cons_append, ↓List.nil_append, List.append_nil, ↓List.getElem?_cons_zero, ↓List.getElem?_cons_succ, ↓List.set_cons_zero, ↓List.set_cons_succ, wipeD, Bool.not_true, Bool.not_false, decide_true, decide_false, beq_self_eq_true, true_and, and_true, Nat.reduceLeDiff, toDs, toDk, toDs_sh, ↓zS_ii, ↓zS_bi, ↓zS_ownO]
    rw [show (a : Int) + ((f.2.1 : Int) + (f.2.2 : Int)) = ((a + (f.2.1 + f.2.2) : Nat) : Int) by omega]
    exact ih _ _ _
theorem cut_ok (hf : fs.length ≤ 4) (hc : c.length = szF fs) (hz : szF fs ≤ 900) (hq : QO (.lst ((cutW fs c 0).map fun z => .sh (shD z)))) : S__law_my_cut [fsD fs, .str (bT c)] QO := by
  refine ⟨rfl, ?_⟩
  show t__law_my_cut _ [some (.sh (fsD fs)), some (.sh (.str (bT c))), none, none, none, none, none]
  simp only [t__law_my_cut, ↓zHd0, zHp0, ↓zGd0, ↓zGd1, ↓zGd2, ↓zGd3, ↓zGd4, zGp0, startD, startC, ↓List.map_cons, ↓List.map_nil, ↓List.length_cons, ↓List.length_nil, Nat.reduceAdd, Nat.reduceSub, Nat.sub_self, List.replicate, ↓List.cons_append, ↓List.nil_append, List.append_nil, ↓List.getElem?_cons_zero, ↓List.getElem?_cons_succ, ↓List.set_cons_zero, ↓List.set_cons_succ, wipeD, Bool.not_true, Bool.not_false, decide_true, decide_false, beq_self_eq_true, true_and, and_true, Nat.reduceLeDiff, toDs, toDk, toDs_sh, ↓zS_ii, ↓zS_bi, ↓zS_ownO]
  intro u v
  simp only [_law_my_cut_at_2, ↓zHd0, zHp0, ↓zGd0, ↓zGd1, ↓zGd2, ↓zGd3, ↓zGd4, zGp0, startD, startC, ↓List.map_cons, ↓List.map_nil, ↓List.length_cons, ↓List.length_nil, Nat.reduceAdd, Nat.reduceSub, Nat.sub_self, List.replicate, ↓List.cons_append, ↓List.nil_append, List.append_nil, ↓List.getElem?_cons_zero, ↓List.getElem?_cons_succ, ↓List.set_cons_zero, ↓List.set_cons_succ, wipeD, Bool.not_true, Bool.not_false, decide_true, decide_false, beq_self_eq_true, true_and, and_true, Nat.reduceLeDiff, toDs, toDk, toDs_sh, ↓zS_ii, ↓zS_bi, ↓zS_ownO]
  refine cut_1 fs 0 [] _ _ _ (by omega) (by omega) (by rw [List.length_nil]; omega) fun o3 o4 o5 o6 => ?_
  rw [List.nil_append]
  simp only [_law_my_cut_at_5, ↓zHd0, zHp0, ↓zGd0, ↓zGd1, ↓zGd2, ↓zGd3, ↓zGd4, zGp0, startD, startC, ↓List.map_cons, ↓List.map_nil, ↓List.length_cons, ↓List.length_nil, Nat.reduceAdd, Nat.reduceSub, Nat.sub_self, List.replicate, ↓List.cons_append, ↓List.nil_append, List.append_nil, ↓List.getElem?_cons_zero, ↓List.getElem?_cons_succ, ↓List.set_cons_zero, ↓List.set_cons_succ, wipeD, Bool.not_true, Bool.not_false, decide_true, decide_false, beq_self_eq_true, true_and, and_true, Nat.reduceLeDiff, toDs, toDk, toDs_sh, ↓zS_ii, ↓zS_bi, ↓zS_ownO]
  exact hq
theorem shown_ok {zs : List (List Bool × List Bool)} (hz : zs.length ≤ 900) (hq : Q (.lst (zs.map shD))) : S__law_my_shown [.lst (zs.map wdD)] Q := by
  refine ⟨rfl, ?_⟩
  show t__law_my_shown _ [some (.sh (.lst (zs.map wdD))), none]
  simp only [t__law_my_shown, ↓zHd0, zHp0, ↓zGd0, ↓zGd1, ↓zGd2, ↓zGd3, ↓zGd4, zGp0, startD, startC, ↓List.map_cons, ↓List.map_nil, ↓List.length_cons, ↓List.length_nil, Nat.reduceAdd, Nat.reduceSub, Nat.sub_self, List.replicate, ↓List.cons_append, ↓List.nil_append, List.append_nil, ↓List.getElem?_cons_zero, ↓List.getElem?_cons_succ, ↓List.set_cons_zero, ↓List.set_cons_succ, wipeD, Bool.not_true, Bool.not_false, decide_true, decide_false, beq_self_eq_true, true_and, and_true, Nat.reduceLeDiff, toDs, toDk, toDs_sh, ↓zS_ii, ↓zS_bi, ↓zS_ownO]
  refine ⟨by rw [List.length_map, sizeLine_eq]; omega, ?_⟩
  refine lc_of (α := List Bool × List Bool) wdD shD zs [] (fun z _ R2 hR2 => ?_) ?_
  · simp only [wdD, ↓zHd0, zHp0, ↓zGd0, ↓zGd1, ↓zGd2, ↓zGd3, ↓zGd4, zGp0, startD, startC, ↓List.map_cons, ↓List.map_nil, ↓List.length_cons, ↓List.length_nil, Nat.reduceAdd, Nat.reduceSub, Nat.sub_self, List.replicate, ↓List.cons_append, ↓List.nil_append, List.append_nil, ↓List.getElem?_cons_zero, ↓List.getElem?_cons_succ, ↓List.set_cons_zero, ↓List.set_cons_succ, wipeD, Bool.not_true, Bool.not_false, decide_true, decide_false, beq_self_eq_true, true_and, and_true, Nat.reduceLeDiff, toDs, toDk, toDs_sh, ↓zS_ii, ↓zS_bi, ↓zS_ownO]
    exact hR2
  · rw [List.nil_append]
    exact hq
theorem shownN_ok (hq : Q .non) : S__law_my_shown [.non] Q := by
  refine ⟨rfl, ?_⟩
  show t__law_my_shown _ [some (.sh .non), none]
  simp only [t__law_my_shown, ↓zHd0, zHp0, ↓zGd0, ↓zGd1, ↓zGd2, ↓zGd3, ↓zGd4, zGp0, startD, startC, ↓List.map_cons, ↓List.map_nil, ↓List.length_cons, ↓List.length_nil, Nat.reduceAdd, Nat.reduceSub, Nat.sub_self, List.replicate, ↓List.cons_append, ↓List.nil_append, List.append_nil, ↓List.getElem?_cons_zero, ↓List.getElem?_cons_succ, ↓List.set_cons_zero, ↓List.set_cons_succ, wipeD, Bool.not_true, Bool.not_false, decide_true, decide_false, beq_self_eq_true, true_and, and_true, Nat.reduceLeDiff, toDs, toDk, toDs_sh, ↓zS_ii, ↓zS_bi, ↓zS_ownO]
  exact hq
end
section
variable {n m R : Nat} {fs : List Fm} {l : List Bool}
theorem crs_wt (hR : R ≤ 6) : ∀ ys : List (Nat × Nat), wtK (crsD n m R l ys) ≤ 5000 * ys.length
  | [] => Nat.le_refl _
  | x :: ys => by
    have ih := crs_wt hR ys
    have e : wtK (crsD n m R l (x :: ys)) = (D.wt (key2 x) + D.wt (.str (bT (colT (n * m) R (x.1 * m + x.2) l))) + 4) + wtK (crsD n m R l ys) := rfl
    have e1 : D.wt (key2 x) = 4008 := rfl
    have e2 : D.wt (.str (bT (colT (n * m) R (x.1 * m + x.2) l))) = 10 * R + 2 := by
      show 10 * (bT _).length + 2 = _
      rw [bT_len, colT_len]
    rw [e, e1, e2, List.length_cons]
    omega
theorem crs_dep : ∀ ys : List (Nat × Nat), PyData.depthKv ((crsD n m R l ys).map fun z => (z.1.py, z.2.py)) ≤ 3
  | [] => by show 0 ≤ 3; omega
  | y :: ys => by
    have ih := crs_dep ys
    have e1 : PyData.depth (key2 y).py ≤ 3 := by
      show PyData.depth (.tuple [.int _, .int _]) ≤ 3
      rw [PyData.depth, PyData.depthAll, PyData.depthAll, PyData.depthAll, PyData.depth, PyData.depth]
      omega
    have e2 : PyData.depth (D.str (bT (colT (n * m) R (y.1 * m + y.2) l))).py ≤ 3 := by
      show PyData.depth (.str _) ≤ 3
      rw [PyData.depth]
      omega
    show max (max (PyData.depth (key2 y).py) (PyData.depth (D.str (bT (colT (n * m) R (y.1 * m + y.2) l))).py)) (PyData.depthKv ((crsD n m R l ys).map fun z => (z.1.py, z.2.py))) ≤ 3
    omega
theorem fs_wt2 : ∀ fs : List Fm, wtL (fs.map fmD) ≤ 5000 * fs.length
  | [] => by rw [List.map_nil, wtL]; exact Nat.zero_le _
  | f :: fs => by
    have ih := fs_wt2 fs
    have := rd_len f.1
    have e : D.wt (fmD f) = 10 * (rdN f.1).length + 2 + 2 + (2000 + 2 + (2000 + 2 + 0)) + 4 := rfl
    rw [List.map_cons, wtL, List.length_cons, e]
    omega
theorem mb_crs {ys : List (Nat × Nat)} (hn : n ≤ 8) (hm : m ≤ 8) (hR : R ≤ 6) (hp : ys.Perm (prs n m)) : Mb 4 320002 (.dic (crsD n m R l ys)) := by
  have hb : n * m ≤ 8 * 8 := Nat.mul_le_mul hn hm
  have len : ys.length = n * m := by rw [hp.length_eq, prs_len]
  have h := (crs_ok (n := n) (m := m) (l := l) ys (fun x hx => by
    have := mem_prs.mp (hp.mem_iff.mp hx)
    exact ⟨by omega, by omega⟩) (by omega) (hp.symm.nodup prs_nd) hR).rep
  refine ⟨by rw [rOk]; exact h, ?_, ?_⟩
  · have := crs_dep (n := n) (m := m) (R := R) (l := l) ys
    rw [rpy]
    unfold kpy
    rw [PyData.depth]
    omega
  · have := crs_wt (n := n) (m := m) (l := l) hR ys
    rw [rwt]
    omega
theorem mb_fs (hl : fs.length ≤ 4) (hz : szF fs ≤ 900) : Mb 4 320002 (fsD fs) := by
  obtain ⟨a1, a2⟩ := fs_fine fs hz
  have w := fs_wt2 fs
  have w2 : D.wt (fsD fs) = wtL (fs.map fmD) + 4 := rfl
  have d2 : D.dep (fsD fs) = depL (fs.map fmD) + 1 := rfl
  obtain ⟨b1, b2, b3⟩ := fine_rok (fsD fs) a1 (by omega)
  exact ⟨b1, by omega, by omega⟩
theorem rep_facts {ys : List (Nat × Nat)} (hn : n ≤ 8) (hm : m ≤ 8) (hR : R ≤ 6) (hp : ys.Perm (prs n m)) (hl : fs.length ≤ 4) (hz : szF fs ≤ 900) :
    rOkL [.dic (crsD n m R l ys), fsD fs] ∧ (PyData.list (rpyL [.dic (crsD n m R l ys), fsD fs])).depth ≤ 66 ∧ (PyData.list (rpyL [.dic (crsD n m R l ys), fsD fs])).shown.length ≤ sizeLine := by
  have M : Mb 60 10000000 (.lst [.dic (crsD n m R l ys), fsD fs]) := Mb.mono (mb_lst (k := 4) (m := 320002) 2 (fun x hx => by
    rcases List.mem_cons.mp hx with rfl | hx
    · exact mb_crs hn hm hR hp
    · cases List.mem_singleton.mp hx
      exact mb_fs hl hz) (Nat.le_refl 2)) (by decide) (by decide)
  obtain ⟨ok, dp, wt⟩ := M
  have len := rpy_len _ ok
  rw [rOk] at ok
  rw [rpy] at dp len
  exact ⟨ok, by omega, by rw [sizeLine_eq]; omega⟩
end
section
variable {n m R : Nat} {fs : List Fm} {l c : List Bool}
theorem sh_fine : ∀ zs : List (List Bool × List Bool), fineL (zs.map shD) = true ∧ depL (zs.map shD) ≤ 1
  | [] => by rw [List.map_nil, fineL, depL]; exact ⟨rfl, by decide⟩
  | z :: zs => by
    obtain ⟨i1, i2⟩ := sh_fine zs
    have e1 : D.fine (shD z) = true := by
      unfold shD
      rw [D.fine, fineL, fineL, fineL, show D.fine (.str (bT z.1)) = true from bT_ok _, show D.fine (.str (bT z.2)) = true from bT_ok _]
      rfl
    have e2 : D.dep (shD z) = 1 := rfl
    rw [List.map_cons, fineL, depL, e1, i1, e2]
    exact ⟨rfl, by omega⟩
theorem cutW_le : ∀ (fs : List Fm) (a : Nat), ∀ z ∈ cutW fs c a, z.1.length ≤ c.length ∧ z.2.length ≤ c.length
  | [], _, _, h => nomatch h
  | f :: fs, a, z, h => by
    rcases List.mem_cons.mp h with rfl | h
    · simp only [List.length_take, List.length_drop]
      omega
    · exact cutW_le fs _ z h
theorem sh_wt {k : Nat} : ∀ zs : List (List Bool × List Bool), (∀ z ∈ zs, z.1.length ≤ k ∧ z.2.length ≤ k) → wtL (zs.map shD) ≤ (20 * k + 20) * zs.length
  | [], _ => by rw [List.map_nil, wtL]; exact Nat.zero_le _
  | z :: zs, h => by
    have ih := sh_wt zs fun y hy => h y (List.mem_cons_of_mem _ hy)
    have hz := h z List.mem_cons_self
    have e : D.wt (shD z) = 10 * (bT z.1).length + 2 + 2 + (10 * (bT z.2).length + 2 + 2 + 0) + 4 := rfl
    rw [bT_len, bT_len] at e
    rw [List.map_cons, wtL, List.length_cons, e, Nat.mul_succ]
    omega
theorem due_fine {ev : List (List Bool)} (hl : fs.length ≤ 4) (hc : ∀ c ∈ ev, c.length ≤ 900) : (dueD fs ev).fine = true ∧ (dueD fs ev).dep ≤ 2 ∧ (dueD fs ev).wt ≤ 100000 := by
  cases ev with
  | nil => exact ⟨rfl, by show 0 ≤ 2; omega, by show 4 ≤ 100000; omega⟩
  | cons c ev =>
    have h := sh_fine (cutW fs c 0)
    have hz := hc c List.mem_cons_self
    have w := sh_wt (k := 900) (cutW fs c 0) fun z hz2 => by
      have := cutW_le fs 0 z hz2
      exact ⟨by omega, by omega⟩
    rw [cutW_len] at w
    refine ⟨h.1, ?_, ?_⟩
    · show depL _ + 1 ≤ 2
      omega
    · show wtL _ + 4 ≤ 100000
      have : (20 * 900 + 20) * fs.length ≤ (20 * 900 + 20) * 4 := Nat.mul_le_mul_left _ hl
      omega
theorem pair_plain {ev : List (List Bool)} {k : Nat} (hl : fs.length ≤ 4) (hc : ∀ c ∈ ev, c.length ≤ 900) (hk : k ≤ 1000) : DL.plain (.lst [dueD fs ev, .int (k : Int)]) = true ∧ D.wt (.lst [dueD fs ev, .int (k : Int)]) ≤ 16000000 := by
  obtain ⟨h1, h2, h3⟩ := due_fine (fs := fs) hl hc
  constructor
  · unfold DL.plain
    rw [D.fine, fineL, fineL, fineL, h1, small_fine hk]
    have : D.dep (.lst [dueD fs ev, .int (k : Int)]) ≤ 64 := by
      rw [D.dep, depL, depL, depL]
      have : D.dep (.int (k : Int)) = 0 := rfl
      omega
    rw [decide_eq_true this]
    rfl
  · rw [D.wt, wtL, wtL, wtL]
    have : D.wt (.int (k : Int)) = 2000 := rfl
    omega
end
section
variable {n m R : Nat} {fs : List Fm} {l c : List Bool} {ys : List (Nat × Nat)} {Q : D → Prop} {QO : OD → Prop} {W : DEnds} {v : V} {o0 o1 o2 o3 o4 o5 o6 o7 o8 o9 o10 o11 o12 o13 : Option SD}
theorem zS_normX {d : D} {P : D → Prop} {Q : Prop} : normQ (some (some (.sh d))) P Q = Q := propext Iff.rfl
abbrev evO (l : List (List Bool)) : OD := .lst (l.map fun s => .sh (.str (bT s)))
theorem ev_1 (sz : Szs n m R fs) (hl4 : fs.length ≤ 4) : ∀ (ss : List (List Bool)) (acc : List (List Bool)) (o7 : Option SD), (∀ s ∈ ss, s.length = szF fs) → acc.length + ss.length ≤ 900 →
    (∀ o7, W.nx [o0, some (.sh (.str (bT l))), some (.sh (fsD fs)), some (.sh (.int n)), some (.sh (.int m)), some (.sh (.int R)), some (.ow v (evO (acc ++ ss.filter fun s => decide (wvn (pss n m R fs) (bitF s) = l)))), o7, o8, o9, o10, o11]) →
    forD (gN 7) b__law_right_1 W (ss.map fun s => .str (bT s)) [o0, some (.sh (.str (bT l))), some (.sh (fsD fs)), some (.sh (.int n)), some (.sh (.int m)), some (.sh (.int R)), some (.ow v (evO acc)), o7, o8, o9, o10, o11]
  | [], acc, o7, _, _, hN => by
    rw [List.map_nil, forD_n]
    rw [List.filter_nil, List.append_nil] at hN
    exact hN _
  | s :: ss, acc, o7, hs, hl, hN => by
    rw [List.length_cons] at hl
    have ih := fun acc' o7 hl' hN' => ev_1 sz hl4 ss acc' o7 (fun y hy => hs y (List.mem_cons_of_mem _ hy)) hl' hN'
    rw [List.map_cons, forD_c]
    generalize forD (gN 7) b__law_right_1 W (ss.map fun s => .str (bT s)) = G at ih ⊢
    simp only [b__law_right_1, ↓zHd0, zHp0, ↓zGd0, ↓zGd1, ↓zGd2, ↓zGd3, ↓zGd4, zGp0, startD, startC, ↓List.map_cons, ↓List.map_nil, ↓List.length_cons, ↓List.length_nil, Nat.reduceAdd, Nat.reduceSub, Nat.sub_self, List.replicate, ↓List.cons_append, ↓List.nil_append, List.append_nil, ↓List.getElem?_cons_zero, ↓List.getElem?_cons_succ, ↓List.set_cons_zero, ↓List.set_cons_succ, wipeD, Bool.not_true, Bool.not_false, decide_true, decide_false, beq_self_eq_true, true_and, and_true, Nat.reduceLeDiff, toDs, toDk, toDs_sh, ↓zS_ii, ↓zS_bi, ↓zS_ownO, ↓zS_normX]
    refine woven_ok sz hl4 (hs s List.mem_cons_self) ?_
    simp only [↓zHd0, zHp0, ↓zGd0, ↓zGd1, ↓zGd2, ↓zGd3, ↓zGd4, zGp0, startD, startC, ↓List.map_cons, ↓List.map_nil, ↓List.length_cons, ↓List.length_nil, Nat.reduceAdd, Nat.reduceSub, Nat.sub_self, List.replicate, ↓List.cons_append, ↓List.nil_append, List.append_nil, ↓List.getElem?_cons_zero, ↓List.getElem?_cons_succ, ↓List.set_cons_zero, ↓List.set_cons_succ, wipeD, Bool.not_true, Bool.not_false, decide_true, decide_false, beq_self_eq_true, true_and, and_true, Nat.reduceLeDiff, toDs, toDk, toDs_sh, ↓zS_ii, ↓zS_bi, ↓zS_ownO, ↓zS_normX]
    rw [List.filter_cons] at hN
    by_cases q : wvn (pss n m R fs) (bitF s) = l
    · rw [if_pos (by simpa using q)] at hN
      rw [decide_eq_true (by rw [q])]
      simp only [↓zHd0, zHp0, ↓zGd0, ↓zGd1, ↓zGd2, ↓zGd3, ↓zGd4, zGp0, startD, startC, ↓List.map_cons, ↓List.map_nil, ↓List.length_cons, ↓List.length_nil, Nat.reduceAdd, Nat.reduceSub, Nat.sub_self, List.replicate, ↓List.cons_append, ↓List.nil_append, List.append_nil, ↓List.getElem?_cons_zero, ↓List.getElem?_cons_succ, ↓List.set_cons_zero, ↓List.set_cons_succ, wipeD, Bool.not_true, Bool.not_false, decide_true, decide_false, beq_self_eq_true, true_and, and_true, Nat.reduceLeDiff, toDs, toDk, toDs_sh, ↓zS_ii, ↓zS_bi, ↓zS_ownO, ↓zS_normX]
      refine ⟨by rw [List.length_map, sizeLine_eq]; omega, ?_⟩
      have e2 : (acc.map fun s => OD.sh (D.str (bT s))) ++ [OD.sh (D.str (bT s))] = (acc ++ [s]).map fun s => OD.sh (D.str (bT s)) := by rw [List.map_append]; rfl
      rw [e2]
      refine ih (acc ++ [s]) _ (by rw [List.length_append, List.length_singleton]; omega) fun o7 => ?_
      rw [List.append_assoc]
      exact hN o7
    · rw [if_neg (by simpa using q)] at hN
      rw [decide_eq_false fun z => q (bT_inj z)]
      simp only [↓zHd0, zHp0, ↓zGd0, ↓zGd1, ↓zGd2, ↓zGd3, ↓zGd4, zGp0, startD, startC, ↓List.map_cons, ↓List.map_nil, ↓List.length_cons, ↓List.length_nil, Nat.reduceAdd, Nat.reduceSub, Nat.sub_self, List.replicate, ↓List.cons_append, ↓List.nil_append, List.append_nil, ↓List.getElem?_cons_zero, ↓List.getElem?_cons_succ, ↓List.set_cons_zero, ↓List.set_cons_succ, wipeD, Bool.not_true, Bool.not_false, decide_true, decide_false, beq_self_eq_true, true_and, and_true, Nat.reduceLeDiff, toDs, toDk, toDs_sh, ↓zS_ii, ↓zS_bi, ↓zS_ownO, ↓zS_normX]
      exact ih acc _ (by omega) hN
theorem toDs_b : ∀ ev : List (List Bool), toDs (ev.map fun s => OD.sh (.str (bT s))) = ev.map fun s => D.str (bT s)
  | [] => rfl
  | s :: ev => by
    have ih := toDs_b ev
    show OD.toD (.sh (.str (bT s))) :: toDs (ev.map fun s => OD.sh (.str (bT s))) = _
    rw [ih]
    rfl
theorem toDs_w : ∀ zs : List (List Bool × List Bool), toDs (zs.map fun z => OD.sh (wdD z)) = zs.map wdD
  | [] => rfl
  | s :: ev => by
    have ih := toDs_w ev
    show OD.toD (.sh (wdD s)) :: toDs (ev.map fun z => OD.sh (wdD z)) = _
    rw [ih]
    rfl
theorem toDs_s : ∀ zs : List (List Bool × List Bool), toDs (zs.map fun z => OD.sh (shD z)) = zs.map shD
  | [] => rfl
  | s :: ev => by
    have ih := toDs_s ev
    show OD.toD (.sh (shD s)) :: toDs (ev.map fun z => OD.sh (shD z)) = _
    rw [ih]
    rfl
theorem right_2 (s : Szs n m R fs) (hl4 : fs.length ≤ 4) (h8 : szF fs ≤ 8) (hl : l.length = R * (n * m)) (hp : ys.Perm (prs n m)) (hN : ∀ o11, W.nx [some (.sh (.dic (crsD n m R l ys))), o1, some (.sh (fsD fs)), o3, o4, o5, some (.sh (.lst ((evB n m R fs l).map fun s => .str (bT s)))), o7, some (.sh (dueD fs (evB n m R fs l))), o9, o10, o11]) :
    b__law_right_2 W [some (.sh (.dic (crsD n m R l ys))), o1, some (.sh (fsD fs)), o3, o4, o5, some (.sh (.lst ((evB n m R fs l).map fun s => .str (bT s)))), o7, some (.sh (dueD fs (evB n m R fs l))), o9, o10, o11] := by
  have l2 : 2 ^ szF fs ≤ 2 ^ 8 := Nat.pow_le_pow_right (by decide) h8
  have ln : (evB n m R fs l).length ≤ 256 := by
    have h1 : (evB n m R fs l).length ≤ (strB (szF fs)).length := List.length_filter_le _ _
    rw [strB_len] at h1
    omega
  have pp := pair_plain (fs := fs) (ev := evB n m R fs l) (k := (evB n m R fs l).length) hl4 (fun c hc => by
    have := mem_strB.mp (List.mem_filter.mp hc).1
    omega) (by omega)
  simp only [b__law_right_2, ↓zHd0, zHp0, ↓zGd0, ↓zGd1, ↓zGd2, ↓zGd3, ↓zGd4, zGp0, startD, startC, ↓List.map_cons, ↓List.map_nil, ↓List.length_cons, ↓List.length_nil, Nat.reduceAdd, Nat.reduceSub, Nat.sub_self, List.replicate, ↓List.cons_append, ↓List.nil_append, List.append_nil, ↓List.getElem?_cons_zero, ↓List.getElem?_cons_succ, ↓List.set_cons_zero, ↓List.set_cons_succ, wipeD, Bool.not_true, Bool.not_false, decide_true, decide_false, beq_self_eq_true, true_and, and_true, Nat.reduceLeDiff, toDs, toDk, toDs_sh, ↓zS_ii, ↓zS_bi, ↓zS_ownO, ↓zS_normX]
  refine told_ok s hl4 hl hp (fun h0 => ?_) fun c ev h1 hc => ?_
  · intro v
    show _law_right_at_9 W [_, _, _, _, _, _, _, _, _, _, _, some (.sh .non)]
    simp only [_law_right_at_9, ↓zHd0, zHp0, ↓zGd0, ↓zGd1, ↓zGd2, ↓zGd3, ↓zGd4, zGp0, startD, startC, ↓List.map_cons, ↓List.map_nil, ↓List.length_cons, ↓List.length_nil, Nat.reduceAdd, Nat.reduceSub, Nat.sub_self, List.replicate, ↓List.cons_append, ↓List.nil_append, List.append_nil, ↓List.getElem?_cons_zero, ↓List.getElem?_cons_succ, ↓List.set_cons_zero, ↓List.set_cons_succ, wipeD, Bool.not_true, Bool.not_false, decide_true, decide_false, beq_self_eq_true, true_and, and_true, Nat.reduceLeDiff, toDs, toDk, toDs_sh, ↓zS_ii, ↓zS_bi, ↓zS_ownO, ↓zS_normX]
    refine shownN_ok ?_
    refine many_told_ok s hl4 hl hp ?_
    have e : dueD fs (evB n m R fs l) = .non := by rw [h0]; rfl
    rw [e] at pp hN
    rw [List.length_map, e]
    refine alike_same pp.1 pp.2 ?_
    simp only [Bool.not_true, ↓zHd0, zHp0, ↓zGd0, ↓zGd1, ↓zGd2, ↓zGd3, ↓zGd4, zGp0, startD, startC, ↓List.map_cons, ↓List.map_nil, ↓List.length_cons, ↓List.length_nil, Nat.reduceAdd, Nat.reduceSub, Nat.sub_self, List.replicate, ↓List.cons_append, ↓List.nil_append, List.append_nil, ↓List.getElem?_cons_zero, ↓List.getElem?_cons_succ, ↓List.set_cons_zero, ↓List.set_cons_succ, wipeD, Bool.not_true, Bool.not_false, decide_true, decide_false, beq_self_eq_true, true_and, and_true, Nat.reduceLeDiff, toDs, toDk, toDs_sh, ↓zS_ii, ↓zS_bi, ↓zS_ownO, ↓zS_normX]
    simp only [_law_right_at_11, ↓zHd0, zHp0, ↓zGd0, ↓zGd1, ↓zGd2, ↓zGd3, ↓zGd4, zGp0, startD, startC, ↓List.map_cons, ↓List.map_nil, ↓List.length_cons, ↓List.length_nil, Nat.reduceAdd, Nat.reduceSub, Nat.sub_self, List.replicate, ↓List.cons_append, ↓List.nil_append, List.append_nil, ↓List.getElem?_cons_zero, ↓List.getElem?_cons_succ, ↓List.set_cons_zero, ↓List.set_cons_succ, wipeD, Bool.not_true, Bool.not_false, decide_true, decide_false, beq_self_eq_true, true_and, and_true, Nat.reduceLeDiff, toDs, toDk, toDs_sh, ↓zS_ii, ↓zS_bi, ↓zS_ownO, ↓zS_normX]
    exact hN _
  · intro v
    show _law_right_at_9 W [_, _, _, _, _, _, _, _, _, _, _, some (.ow v (.lst ((cutW fs c 0).map fun z => .sh (wdD z))))]
    simp only [_law_right_at_9, ↓zHd0, zHp0, ↓zGd0, ↓zGd1, ↓zGd2, ↓zGd3, ↓zGd4, zGp0, startD, startC, ↓List.map_cons, ↓List.map_nil, ↓List.length_cons, ↓List.length_nil, Nat.reduceAdd, Nat.reduceSub, Nat.sub_self, List.replicate, ↓List.cons_append, ↓List.nil_append, List.append_nil, ↓List.getElem?_cons_zero, ↓List.getElem?_cons_succ, ↓List.set_cons_zero, ↓List.set_cons_succ, wipeD, Bool.not_true, Bool.not_false, decide_true, decide_false, beq_self_eq_true, true_and, and_true, Nat.reduceLeDiff, toDs, toDk, toDs_sh, ↓zS_ii, ↓zS_bi, ↓zS_ownO, ↓zS_normX]
    rw [toDs_w]
    refine shown_ok (by rw [cutW_len]; omega) ?_
    refine many_told_ok s hl4 hl hp ?_
    have e : dueD fs (evB n m R fs l) = .lst ((cutW fs c 0).map shD) := by rw [h1]; rfl
    rw [e] at pp hN
    rw [List.length_map, e]
    refine alike_same pp.1 pp.2 ?_
    simp only [Bool.not_true, ↓zHd0, zHp0, ↓zGd0, ↓zGd1, ↓zGd2, ↓zGd3, ↓zGd4, zGp0, startD, startC, ↓List.map_cons, ↓List.map_nil, ↓List.length_cons, ↓List.length_nil, Nat.reduceAdd, Nat.reduceSub, Nat.sub_self, List.replicate, ↓List.cons_append, ↓List.nil_append, List.append_nil, ↓List.getElem?_cons_zero, ↓List.getElem?_cons_succ, ↓List.set_cons_zero, ↓List.set_cons_succ, wipeD, Bool.not_true, Bool.not_false, decide_true, decide_false, beq_self_eq_true, true_and, and_true, Nat.reduceLeDiff, toDs, toDk, toDs_sh, ↓zS_ii, ↓zS_bi, ↓zS_ownO, ↓zS_normX]
    simp only [_law_right_at_11, ↓zHd0, zHp0, ↓zGd0, ↓zGd1, ↓zGd2, ↓zGd3, ↓zGd4, zGp0, startD, startC, ↓List.map_cons, ↓List.map_nil, ↓List.length_cons, ↓List.length_nil, Nat.reduceAdd, Nat.reduceSub, Nat.sub_self, List.replicate, ↓List.cons_append, ↓List.nil_append, List.append_nil, ↓List.getElem?_cons_zero, ↓List.getElem?_cons_succ, ↓List.set_cons_zero, ↓List.set_cons_succ, wipeD, Bool.not_true, Bool.not_false, decide_true, decide_false, beq_self_eq_true, true_and, and_true, Nat.reduceLeDiff, toDs, toDk, toDs_sh, ↓zS_ii, ↓zS_bi, ↓zS_ownO, ↓zS_normX]
    refine ⟨by rw [List.length_map, cutW_len, sizeLine_eq]; omega, ?_⟩
    exact hN _
theorem right_6 (s : Szs n m R fs) (hl4 : fs.length ≤ 4) (h8 : szF fs ≤ 8) (hl : l.length = R * (n * m)) (hp : ys.Perm (prs n m)) (hq : Q (.bl true)) :
    _law_right_at_6 { nx := fun _ => Q .non, rt := Q } [some (.sh (.dic (crsD n m R l ys))), o1, some (.sh (fsD fs)), o3, o4, o5, some (.sh (.lst ((evB n m R fs l).map fun s => .str (bT s)))), o7, some (.sh (dueD fs (evB n m R fs l))), o9, o10, o11] := by
  have k2 : ∀ W (i : Int) (c : Nat), forD (gN 10) b__law_right_2 W (ups i (c + 1)) = forD (gN 10) b__law_right_2 W (.int i :: ups (i + 1) c) := fun W i c => by rw [ups_succ]
  have rf := rep_facts (n := n) (m := m) (R := R) (l := l) (fs := fs) s.n8 s.m8 s.R6 hp hl4 (by have := s.sz; omega)
  simp only [_law_right_at_6, ↓zHd0, zHp0, ↓zGd0, ↓zGd1, ↓zGd2, ↓zGd3, ↓zGd4, zGp0, startD, startC, ↓List.map_cons, ↓List.map_nil, ↓List.length_cons, ↓List.length_nil, Nat.reduceAdd, Nat.reduceSub, Nat.sub_self, List.replicate, ↓List.cons_append, ↓List.nil_append, List.append_nil, ↓List.getElem?_cons_zero, ↓List.getElem?_cons_succ, ↓List.set_cons_zero, ↓List.set_cons_succ, wipeD, Bool.not_true, Bool.not_false, decide_true, decide_false, beq_self_eq_true, true_and, and_true, Nat.reduceLeDiff, toDs, toDk, toDs_sh, ↓zS_ii, ↓zS_bi, ↓zS_ownO, ↓zS_normX]
  refine ⟨rf, ?_⟩
  simp only [_law_right_at_7, ↓zHd0, zHp0, ↓zGd0, ↓zGd1, ↓zGd2, ↓zGd3, ↓zGd4, zGp0, startD, startC, ↓List.map_cons, ↓List.map_nil, ↓List.length_cons, ↓List.length_nil, Nat.reduceAdd, Nat.reduceSub, Nat.sub_self, List.replicate, ↓List.cons_append, ↓List.nil_append, List.append_nil, ↓List.getElem?_cons_zero, ↓List.getElem?_cons_succ, ↓List.set_cons_zero, ↓List.set_cons_succ, wipeD, Bool.not_true, Bool.not_false, decide_true, decide_false, beq_self_eq_true, true_and, and_true, Nat.reduceLeDiff, toDs, toDk, toDs_sh, ↓zS_ii, ↓zS_bi, ↓zS_ownO, ↓zS_normX]
  refine ⟨by decide, ?_⟩
  rw [show Int.toNat 2 = 2 from rfl, k2, forD_c]
  simp only [↓zHd0, zHp0, ↓zGd0, ↓zGd1, ↓zGd2, ↓zGd3, ↓zGd4, zGp0, startD, startC, ↓List.map_cons, ↓List.map_nil, ↓List.length_cons, ↓List.length_nil, Nat.reduceAdd, Nat.reduceSub, Nat.sub_self, List.replicate, ↓List.cons_append, ↓List.nil_append, List.append_nil, ↓List.getElem?_cons_zero, ↓List.getElem?_cons_succ, ↓List.set_cons_zero, ↓List.set_cons_succ, wipeD, Bool.not_true, Bool.not_false, decide_true, decide_false, beq_self_eq_true, true_and, and_true, Nat.reduceLeDiff, toDs, toDk, toDs_sh, ↓zS_ii, ↓zS_bi, ↓zS_ownO, ↓zS_normX]
  refine right_2 s hl4 h8 hl hp fun o11 => ?_
  dsimp only
  rw [k2, forD_c]
  simp only [↓zHd0, zHp0, ↓zGd0, ↓zGd1, ↓zGd2, ↓zGd3, ↓zGd4, zGp0, startD, startC, ↓List.map_cons, ↓List.map_nil, ↓List.length_cons, ↓List.length_nil, Nat.reduceAdd, Nat.reduceSub, Nat.sub_self, List.replicate, ↓List.cons_append, ↓List.nil_append, List.append_nil, ↓List.getElem?_cons_zero, ↓List.getElem?_cons_succ, ↓List.set_cons_zero, ↓List.set_cons_succ, wipeD, Bool.not_true, Bool.not_false, decide_true, decide_false, beq_self_eq_true, true_and, and_true, Nat.reduceLeDiff, toDs, toDk, toDs_sh, ↓zS_ii, ↓zS_bi, ↓zS_ownO, ↓zS_normX]
  refine right_2 s hl4 h8 hl hp fun o11 => ?_
  dsimp only
  rw [ups_zero, forD_n]
  dsimp only
  simp only [_law_right_at_13, ↓zHd0, zHp0, ↓zGd0, ↓zGd1, ↓zGd2, ↓zGd3, ↓zGd4, zGp0, startD, startC, ↓List.map_cons, ↓List.map_nil, ↓List.length_cons, ↓List.length_nil, Nat.reduceAdd, Nat.reduceSub, Nat.sub_self, List.replicate, ↓List.cons_append, ↓List.nil_append, List.append_nil, ↓List.getElem?_cons_zero, ↓List.getElem?_cons_succ, ↓List.set_cons_zero, ↓List.set_cons_succ, wipeD, Bool.not_true, Bool.not_false, decide_true, decide_false, beq_self_eq_true, true_and, and_true, Nat.reduceLeDiff, toDs, toDk, toDs_sh, ↓zS_ii, ↓zS_bi, ↓zS_ownO, ↓zS_normX]
  refine ⟨rf, ?_⟩
  exact hq
theorem right_ok (s : Szs n m R fs) (hl4 : fs.length ≤ 4) (h8 : szF fs ≤ 8) (hl : l.length = R * (n * m)) (hp : ys.Perm (prs n m)) (hq : Q (.bl true)) : S__law_right [.dic (crsD n m R l ys), .str (bT l), fsD fs, .int n, .int m, .int R] Q := by
  refine ⟨rfl, ?_⟩
  show t__law_right _ [some (.sh (.dic (crsD n m R l ys))), some (.sh (.str (bT l))), some (.sh (fsD fs)), some (.sh (.int n)), some (.sh (.int m)), some (.sh (.int R)), none, none, none, none, none, none]
  simp only [t__law_right, ↓zHd0, zHp0, ↓zGd0, ↓zGd1, ↓zGd2, ↓zGd3, ↓zGd4, zGp0, startD, startC, ↓List.map_cons, ↓List.map_nil, ↓List.length_cons, ↓List.length_nil, Nat.reduceAdd, Nat.reduceSub, Nat.sub_self, List.replicate, ↓List.cons_append, ↓List.nil_append, List.append_nil, ↓List.getElem?_cons_zero, ↓List.getElem?_cons_succ, ↓List.set_cons_zero, ↓List.set_cons_succ, wipeD, Bool.not_true, Bool.not_false, decide_true, decide_false, beq_self_eq_true, true_and, and_true, Nat.reduceLeDiff, toDs, toDk, toDs_sh, ↓zS_ii, ↓zS_bi, ↓zS_ownO, ↓zS_normX]
  intro v
  simp only [_law_right_at_2, ↓zHd0, zHp0, ↓zGd0, ↓zGd1, ↓zGd2, ↓zGd3, ↓zGd4, zGp0, startD, startC, ↓List.map_cons, ↓List.map_nil, ↓List.length_cons, ↓List.length_nil, Nat.reduceAdd, Nat.reduceSub, Nat.sub_self, List.replicate, ↓List.cons_append, ↓List.nil_append, List.append_nil, ↓List.getElem?_cons_zero, ↓List.getElem?_cons_succ, ↓List.set_cons_zero, ↓List.set_cons_succ, wipeD, Bool.not_true, Bool.not_false, decide_true, decide_false, beq_self_eq_true, true_and, and_true, Nat.reduceLeDiff, toDs, toDk, toDs_sh, ↓zS_ii, ↓zS_bi, ↓zS_ownO, ↓zS_normX]
  refine size_ok s.ok hl4 ?_
  refine strB_ok h8 ?_
  simp only [↓zHd0, zHp0, ↓zGd0, ↓zGd1, ↓zGd2, ↓zGd3, ↓zGd4, zGp0, startD, startC, ↓List.map_cons, ↓List.map_nil, ↓List.length_cons, ↓List.length_nil, Nat.reduceAdd, Nat.reduceSub, Nat.sub_self, List.replicate, ↓List.cons_append, ↓List.nil_append, List.append_nil, ↓List.getElem?_cons_zero, ↓List.getElem?_cons_succ, ↓List.set_cons_zero, ↓List.set_cons_succ, wipeD, Bool.not_true, Bool.not_false, decide_true, decide_false, beq_self_eq_true, true_and, and_true, Nat.reduceLeDiff, toDs, toDk, toDs_sh, ↓zS_ii, ↓zS_bi, ↓zS_ownO, ↓zS_normX]
  have l2 : 2 ^ szF fs ≤ 2 ^ 8 := Nat.pow_le_pow_right (by decide) h8
  refine ev_1 s hl4 (strB (szF fs)) [] _ (fun t ht => mem_strB.mp ht) (by rw [strB_len, List.length_nil]; omega) fun o7 => ?_
  rw [List.nil_append]
  show _law_right_at_5 _ [_, _, _, _, _, _, some (.ow v (evO (evB n m R fs l))), _, _, _, _, _]
  simp only [_law_right_at_5, evO, ↓zHd0, zHp0, ↓zGd0, ↓zGd1, ↓zGd2, ↓zGd3, ↓zGd4, zGp0, startD, startC, ↓List.map_cons, ↓List.map_nil, ↓List.length_cons, ↓List.length_nil, Nat.reduceAdd, Nat.reduceSub, Nat.sub_self, List.replicate, ↓List.cons_append, ↓List.nil_append, List.append_nil, ↓List.getElem?_cons_zero, ↓List.getElem?_cons_succ, ↓List.set_cons_zero, ↓List.set_cons_succ, wipeD, Bool.not_true, Bool.not_false, decide_true, decide_false, beq_self_eq_true, true_and, and_true, Nat.reduceLeDiff, toDs, toDk, toDs_sh, ↓zS_ii, ↓zS_bi, ↓zS_ownO, ↓zS_normX]
  rw [toDs_b]
  have ee : ∀ xs : List D, eqb (.lst xs) (.lst []) = decide (xs = []) := fun xs => by
    cases xs with
    | nil => rfl
    | cons x xs => rfl
  rw [ee]
  have hR6 := fun d (e : d = dueD fs (evB n m R fs l)) => e ▸ right_6 (Q := Q) (o1 := some (.sh (.str (bT l)))) (o3 := some (.sh (.int n))) (o4 := some (.sh (.int m))) (o5 := some (.sh (.int R))) (o7 := o7) (o9 := none) (o10 := none) (o11 := none) s hl4 h8 hl hp hq
  have hcl : ∀ c ∈ evB n m R fs l, c.length = szF fs := fun c hc => mem_strB.mp (List.mem_filter.mp hc).1
  refine ⟨⟨?_, rfl⟩, ?_⟩
  · have h := txs_fine ((evB n m R fs l).map bT) fun t ht => by
      obtain ⟨k, _, rfl⟩ := List.mem_map.mp ht
      exact bT_ok _
    rw [List.map_map] at h
    have h : fineL ((evB n m R fs l).map fun s => D.str (bT s)) = true ∧ depL ((evB n m R fs l).map fun s => D.str (bT s)) ≤ 0 := h
    unfold DL.plain
    rw [D.fine, h.1, D.dep, decide_eq_true (by omega)]
    rfl
  cases q : evB n m R fs l with
  | nil =>
    rw [q] at hR6
    rw [List.map_nil, decide_eq_true rfl]
    simp only [Bool.not_true, ↓zHd0, zHp0, ↓zGd0, ↓zGd1, ↓zGd2, ↓zGd3, ↓zGd4, zGp0, startD, startC, ↓List.map_cons, ↓List.map_nil, ↓List.length_cons, ↓List.length_nil, Nat.reduceAdd, Nat.reduceSub, Nat.sub_self, List.replicate, ↓List.cons_append, ↓List.nil_append, List.append_nil, ↓List.getElem?_cons_zero, ↓List.getElem?_cons_succ, ↓List.set_cons_zero, ↓List.set_cons_succ, wipeD, Bool.not_true, Bool.not_false, decide_true, decide_false, beq_self_eq_true, true_and, and_true, Nat.reduceLeDiff, toDs, toDk, toDs_sh, ↓zS_ii, ↓zS_bi, ↓zS_ownO, ↓zS_normX]
    exact hR6 .non rfl
  | cons c ev =>
    rw [q] at hR6 hcl
    rw [List.map_cons, decide_eq_false (fun z => nomatch z)]
    simp only [Bool.not_false, ↓zHd0, zHp0, ↓zGd0, ↓zGd1, ↓zGd2, ↓zGd3, ↓zGd4, zGp0, startD, startC, ↓List.map_cons, ↓List.map_nil, ↓List.length_cons, ↓List.length_nil, Nat.reduceAdd, Nat.reduceSub, Nat.sub_self, List.replicate, ↓List.cons_append, ↓List.nil_append, List.append_nil, ↓List.getElem?_cons_zero, ↓List.getElem?_cons_succ, ↓List.set_cons_zero, ↓List.set_cons_succ, wipeD, Bool.not_true, Bool.not_false, decide_true, decide_false, beq_self_eq_true, true_and, and_true, Nat.reduceLeDiff, toDs, toDk, toDs_sh, ↓zS_ii, ↓zS_bi, ↓zS_ownO, ↓zS_normX]
    refine cut_ok hl4 (hcl c List.mem_cons_self) (by omega) ?_
    refine hR6 _ ?_
    show D.lst (toDs _) = .lst _
    rw [toDs_s]
end
section
variable {n m R : Nat} {fs : List Fm} {l c : List Bool} {Q : D → Prop} {W : DEnds} {v : V} {o0 o1 o2 o3 o4 o5 o6 o7 o8 o9 o10 o11 o12 o13 : Option SD}
theorem bent_len {b : Bool} {k : Nat} (h : k < l.length) : (l.take k ++ [b] ++ l.drop (k + 1)).length = l.length := by
  simp only [List.length_append, List.length_take, List.length_drop, List.length_singleton]
  omega
theorem take_bT (k : Nat) : (⟨(cut (bT l).cps.toList none (some (k : Int))).toArray⟩ : Str) = bT (l.take k) := by
  rw [bT_codes, cut_to, ← List.map_take]
  rfl
theorem drop_bT {i : Int} {k : Nat} (h : i = (k : Int)) : (⟨(cut (bT l).cps.toList (some i) none).toArray⟩ : Str) = bT (l.drop k) := by
  subst h
  rw [bT_codes, cut_from, ← List.map_drop]
  rfl
theorem at_12 (s : Szs n m R fs) (hl4 : fs.length ≤ 4) (h8 : szF fs ≤ 8) (hl : l.length = R * (n * m)) (hN : ∀ o10, W.nx [o0, some (.sh .bag), o2, some (.sh (.int n)), some (.sh (.int m)), some (.sh (.int R)), some (.sh (fsD fs)), o7, some (.sh (.str (bT l))), o9, o10, o11]) :
    law_at_12 W [o0, some (.sh .bag), o2, some (.sh (.int n)), some (.sh (.int m)), some (.sh (.int R)), some (.sh (fsD fs)), o7, some (.sh (.str (bT l))), o9, o10, o11] := by
  have hb0 : n * m ≤ 8 * 8 := Nat.mul_le_mul s.n8 s.m8
  simp only [law_at_12, ↓zHd0, zHp0, ↓zGd0, ↓zGd1, ↓zGd2, ↓zGd3, ↓zGd4, zGp0, startD, startC, ↓List.map_cons, ↓List.map_nil, ↓List.length_cons, ↓List.length_nil, Nat.reduceAdd, Nat.reduceSub, Nat.sub_self, List.replicate, ↓List.cons_append, ↓List.nil_append, List.append_nil, ↓List.getElem?_cons_zero, ↓List.getElem?_cons_succ, ↓List.set_cons_zero, ↓List.set_cons_succ, wipeD, Bool.not_true, Bool.not_false, decide_true, decide_false, beq_self_eq_true, true_and, and_true, Nat.reduceLeDiff, toDs, toDk, toDs_sh, ↓zS_ii, ↓zS_bi, ↓zS_ownO, ↓zS_normX]
  refine lcross_ok hl s.n0 s.m0 s.R0 s.n8 s.m8 s.R6 ?_
  have pl : (prs n m).length = n * m := prs_len
  have pos : 0 < n * m := Nat.mul_pos s.n0 s.m0
  refine shuf_ok (by omega) (fun z => by rw [z] at pl; rw [List.length_nil] at pl; omega) prs_nd fun ys hy => ?_
  simp only [↓zHd0, zHp0, ↓zGd0, ↓zGd1, ↓zGd2, ↓zGd3, ↓zGd4, zGp0, startD, startC, ↓List.map_cons, ↓List.map_nil, ↓List.length_cons, ↓List.length_nil, Nat.reduceAdd, Nat.reduceSub, Nat.sub_self, List.replicate, ↓List.cons_append, ↓List.nil_append, List.append_nil, ↓List.getElem?_cons_zero, ↓List.getElem?_cons_succ, ↓List.set_cons_zero, ↓List.set_cons_succ, wipeD, Bool.not_true, Bool.not_false, decide_true, decide_false, beq_self_eq_true, true_and, and_true, Nat.reduceLeDiff, toDs, toDk, toDs_sh, ↓zS_ii, ↓zS_bi, ↓zS_ownO, ↓zS_normX]
  try rw [toDk_sh]
  simp only [law_at_13, ↓zHd0, zHp0, ↓zGd0, ↓zGd1, ↓zGd2, ↓zGd3, ↓zGd4, zGp0, startD, startC, ↓List.map_cons, ↓List.map_nil, ↓List.length_cons, ↓List.length_nil, Nat.reduceAdd, Nat.reduceSub, Nat.sub_self, List.replicate, ↓List.cons_append, ↓List.nil_append, List.append_nil, ↓List.getElem?_cons_zero, ↓List.getElem?_cons_succ, ↓List.set_cons_zero, ↓List.set_cons_succ, wipeD, Bool.not_true, Bool.not_false, decide_true, decide_false, beq_self_eq_true, true_and, and_true, Nat.reduceLeDiff, toDs, toDk, toDs_sh, ↓zS_ii, ↓zS_bi, ↓zS_ownO, ↓zS_normX]
  refine right_ok s hl4 h8 hl hy ?_
  simp only [Bool.not_true, ↓zHd0, zHp0, ↓zGd0, ↓zGd1, ↓zGd2, ↓zGd3, ↓zGd4, zGp0, startD, startC, ↓List.map_cons, ↓List.map_nil, ↓List.length_cons, ↓List.length_nil, Nat.reduceAdd, Nat.reduceSub, Nat.sub_self, List.replicate, ↓List.cons_append, ↓List.nil_append, List.append_nil, ↓List.getElem?_cons_zero, ↓List.getElem?_cons_succ, ↓List.set_cons_zero, ↓List.set_cons_succ, wipeD, Bool.not_true, Bool.not_false, decide_true, decide_false, beq_self_eq_true, true_and, and_true, Nat.reduceLeDiff, toDs, toDk, toDs_sh, ↓zS_ii, ↓zS_bi, ↓zS_ownO, ↓zS_normX]
  exact hN _
theorem at_10 (s : Szs n m R fs) (hl4 : fs.length ≤ 4) (h8 : szF fs ≤ 8) (hl : l.length = R * (n * m)) (hN : ∀ o8 o10, W.nx [o0, some (.sh .bag), o2, some (.sh (.int n)), some (.sh (.int m)), some (.sh (.int R)), some (.sh (fsD fs)), o7, o8, o9, o10, o11]) :
    law_at_10 W [o0, some (.sh .bag), o2, some (.sh (.int n)), some (.sh (.int m)), some (.sh (.int R)), some (.sh (fsD fs)), o7, some (.sh (.str (bT l))), o9, o10, o11] := by
  have hb0 : n * m ≤ 8 * 8 := Nat.mul_le_mul s.n8 s.m8
  have hb : R * (n * m) ≤ 6 * (8 * 8) := Nat.mul_le_mul s.R6 hb0
  simp only [law_at_10, ↓zHd0, zHp0, ↓zGd0, ↓zGd1, ↓zGd2, ↓zGd3, ↓zGd4, zGp0, startD, startC, ↓List.map_cons, ↓List.map_nil, ↓List.length_cons, ↓List.length_nil, Nat.reduceAdd, Nat.reduceSub, Nat.sub_self, List.replicate, ↓List.cons_append, ↓List.nil_append, List.append_nil, ↓List.getElem?_cons_zero, ↓List.getElem?_cons_succ, ↓List.set_cons_zero, ↓List.set_cons_succ, wipeD, Bool.not_true, Bool.not_false, decide_true, decide_false, beq_self_eq_true, true_and, and_true, Nat.reduceLeDiff, toDs, toDk, toDs_sh, ↓zS_ii, ↓zS_bi, ↓zS_ownO, ↓zS_normX]
  refine take_of (by decide) (by decide) fun a a0 a1 => ?_
  simp only [↓zHd0, zHp0, ↓zGd0, ↓zGd1, ↓zGd2, ↓zGd3, ↓zGd4, zGp0, startD, startC, ↓List.map_cons, ↓List.map_nil, ↓List.length_cons, ↓List.length_nil, Nat.reduceAdd, Nat.reduceSub, Nat.sub_self, List.replicate, ↓List.cons_append, ↓List.nil_append, List.append_nil, ↓List.getElem?_cons_zero, ↓List.getElem?_cons_succ, ↓List.set_cons_zero, ↓List.set_cons_succ, wipeD, Bool.not_true, Bool.not_false, decide_true, decide_false, beq_self_eq_true, true_and, and_true, Nat.reduceLeDiff, toDs, toDk, toDs_sh, ↓zS_ii, ↓zS_bi, ↓zS_ownO, ↓zS_normX]
  by_cases q : a = 0
  · rw [iteS_pos q]
    simp only [↓zHd0, zHp0, ↓zGd0, ↓zGd1, ↓zGd2, ↓zGd3, ↓zGd4, zGp0, startD, startC, ↓List.map_cons, ↓List.map_nil, ↓List.length_cons, ↓List.length_nil, Nat.reduceAdd, Nat.reduceSub, Nat.sub_self, List.replicate, ↓List.cons_append, ↓List.nil_append, List.append_nil, ↓List.getElem?_cons_zero, ↓List.getElem?_cons_succ, ↓List.set_cons_zero, ↓List.set_cons_succ, wipeD, Bool.not_true, Bool.not_false, decide_true, decide_false, beq_self_eq_true, true_and, and_true, Nat.reduceLeDiff, toDs, toDk, toDs_sh, ↓zS_ii, ↓zS_bi, ↓zS_ownO, ↓zS_normX]
    rw [bT_len, Int.toNat_natCast, ups_len]
    refine ⟨by rw [sizeLine_eq]; omega, ⟨by omega, by omega⟩, by rw [sizeLine_eq]; omega, ?_⟩
    refine draw_bT (fun k K hK => ?_) l.length 0 [] fun t ht => ?_
    · simp only [↓zHd0, zHp0, ↓zGd0, ↓zGd1, ↓zGd2, ↓zGd3, ↓zGd4, zGp0, startD, startC, ↓List.map_cons, ↓List.map_nil, ↓List.length_cons, ↓List.length_nil, Nat.reduceAdd, Nat.reduceSub, Nat.sub_self, List.replicate, ↓List.cons_append, ↓List.nil_append, List.append_nil, ↓List.getElem?_cons_zero, ↓List.getElem?_cons_succ, ↓List.set_cons_zero, ↓List.set_cons_succ, wipeD, Bool.not_true, Bool.not_false, decide_true, decide_false, beq_self_eq_true, true_and, and_true, Nat.reduceLeDiff, toDs, toDk, toDs_sh, ↓zS_ii, ↓zS_bi, ↓zS_ownO, ↓zS_normX]
      refine take_of (by decide) (by decide) fun a a0 a1 => ?_
      obtain ⟨b, rfl⟩ : ∃ b : Nat, a = (b : Int) := ⟨a.toNat, by omega⟩
      exact ix01 (by omega) (hK _)
    · rw [List.length_nil, Nat.zero_add, hl] at ht
      refine join_bits (by omega) ?_
      exact at_12 s hl4 h8 ht fun o10 => hN _ o10
  · rw [iteS_neg q]
    simp only [↓zHd0, zHp0, ↓zGd0, ↓zGd1, ↓zGd2, ↓zGd3, ↓zGd4, zGp0, startD, startC, ↓List.map_cons, ↓List.map_nil, ↓List.length_cons, ↓List.length_nil, Nat.reduceAdd, Nat.reduceSub, Nat.sub_self, List.replicate, ↓List.cons_append, ↓List.nil_append, List.append_nil, ↓List.getElem?_cons_zero, ↓List.getElem?_cons_succ, ↓List.set_cons_zero, ↓List.set_cons_succ, wipeD, Bool.not_true, Bool.not_false, decide_true, decide_false, beq_self_eq_true, true_and, and_true, Nat.reduceLeDiff, toDs, toDk, toDs_sh, ↓zS_ii, ↓zS_bi, ↓zS_ownO, ↓zS_normX]
    exact at_12 s hl4 h8 hl fun o10 => hN _ o10
theorem at_7 (s : Szs n m R fs) (hl4 : fs.length ≤ 4) (h8 : szF fs ≤ 8) (hl : l.length = R * (n * m)) (hN : ∀ o8 o9 o10, W.nx [o0, some (.sh .bag), o2, some (.sh (.int n)), some (.sh (.int m)), some (.sh (.int R)), some (.sh (fsD fs)), o7, o8, o9, o10, o11]) :
    law_at_7 W [o0, some (.sh .bag), o2, some (.sh (.int n)), some (.sh (.int m)), some (.sh (.int R)), some (.sh (fsD fs)), o7, some (.sh (.str (bT l))), o9, o10, o11] := by
  have hb0 : n * m ≤ 8 * 8 := Nat.mul_le_mul s.n8 s.m8
  have hb : R * (n * m) ≤ 6 * (8 * 8) := Nat.mul_le_mul s.R6 hb0
  have hpos : 0 < R * (n * m) := Nat.mul_pos s.R0 (Nat.mul_pos s.n0 s.m0)
  simp only [law_at_7, ↓zHd0, zHp0, ↓zGd0, ↓zGd1, ↓zGd2, ↓zGd3, ↓zGd4, zGp0, startD, startC, ↓List.map_cons, ↓List.map_nil, ↓List.length_cons, ↓List.length_nil, Nat.reduceAdd, Nat.reduceSub, Nat.sub_self, List.replicate, ↓List.cons_append, ↓List.nil_append, List.append_nil, ↓List.getElem?_cons_zero, ↓List.getElem?_cons_succ, ↓List.set_cons_zero, ↓List.set_cons_succ, wipeD, Bool.not_true, Bool.not_false, decide_true, decide_false, beq_self_eq_true, true_and, and_true, Nat.reduceLeDiff, toDs, toDk, toDs_sh, ↓zS_ii, ↓zS_bi, ↓zS_ownO, ↓zS_normX]
  refine take_of (by decide) (by decide) fun a a0 a1 => ?_
  simp only [↓zHd0, zHp0, ↓zGd0, ↓zGd1, ↓zGd2, ↓zGd3, ↓zGd4, zGp0, startD, startC, ↓List.map_cons, ↓List.map_nil, ↓List.length_cons, ↓List.length_nil, Nat.reduceAdd, Nat.reduceSub, Nat.sub_self, List.replicate, ↓List.cons_append, ↓List.nil_append, List.append_nil, ↓List.getElem?_cons_zero, ↓List.getElem?_cons_succ, ↓List.set_cons_zero, ↓List.set_cons_succ, wipeD, Bool.not_true, Bool.not_false, decide_true, decide_false, beq_self_eq_true, true_and, and_true, Nat.reduceLeDiff, toDs, toDk, toDs_sh, ↓zS_ii, ↓zS_bi, ↓zS_ownO, ↓zS_normX]
  by_cases q : a = 0
  · rw [iteS_pos q]
    simp only [↓zHd0, zHp0, ↓zGd0, ↓zGd1, ↓zGd2, ↓zGd3, ↓zGd4, zGp0, startD, startC, ↓List.map_cons, ↓List.map_nil, ↓List.length_cons, ↓List.length_nil, Nat.reduceAdd, Nat.reduceSub, Nat.sub_self, List.replicate, ↓List.cons_append, ↓List.nil_append, List.append_nil, ↓List.getElem?_cons_zero, ↓List.getElem?_cons_succ, ↓List.set_cons_zero, ↓List.set_cons_succ, wipeD, Bool.not_true, Bool.not_false, decide_true, decide_false, beq_self_eq_true, true_and, and_true, Nat.reduceLeDiff, toDs, toDk, toDs_sh, ↓zS_ii, ↓zS_bi, ↓zS_ownO, ↓zS_normX]
    refine ⟨by rw [bT_len, sizeLine_eq]; omega, ?_⟩
    rw [bT_len]
    refine take_of (by omega) (by rw [hl]; omega) fun k k0 k1 => ?_
    obtain ⟨k, rfl⟩ : ∃ b : Nat, k = (b : Int) := ⟨k.toNat, by omega⟩
    have kl : k < l.length := by omega
    simp only [law_at_9, ↓zHd0, zHp0, ↓zGd0, ↓zGd1, ↓zGd2, ↓zGd3, ↓zGd4, zGp0, startD, startC, ↓List.map_cons, ↓List.map_nil, ↓List.length_cons, ↓List.length_nil, Nat.reduceAdd, Nat.reduceSub, Nat.sub_self, List.replicate, ↓List.cons_append, ↓List.nil_append, List.append_nil, ↓List.getElem?_cons_zero, ↓List.getElem?_cons_succ, ↓List.set_cons_zero, ↓List.set_cons_succ, wipeD, Bool.not_true, Bool.not_false, decide_true, decide_false, beq_self_eq_true, true_and, and_true, Nat.reduceLeDiff, toDs, toDk, toDs_sh, ↓zS_ii, ↓zS_bi, ↓zS_ownO, ↓zS_normX]
    rw [take_bT, drop_bT (k := k + 1) (by omega), bT_codes, atI_nat (v := cB (l.getD k false)) (getD_code kl), at1]
    have lk : ∀ b : Bool, lookD (zipS [Str.ofString "0", Str.ofString "1"] [.str (Str.ofString "1"), .str (Str.ofString "0")]) (.str (bT [b])) = some (.str (bT [!b])) := fun b => by cases b <;> rfl
    have hd : ∀ (b : Bool) (K : D → Prop), K (.str (bT [!b])) → dgD (.dic (zipS [Str.ofString "0", Str.ofString "1"] [.str (Str.ofString "1"), .str (Str.ofString "0")])) (.str (bT [b])) K := fun b K hK => by
      refine ⟨rfl, ?_⟩
      rw [lk]
      exact hK
    refine ⟨by rw [bT_len, sizeLine_eq]; omega, by rw [bT_len, sizeLine_eq]; omega, hd _ _ ?_⟩
    simp only [↓zHd0, zHp0, ↓zGd0, ↓zGd1, ↓zGd2, ↓zGd3, ↓zGd4, zGp0, startD, startC, ↓List.map_cons, ↓List.map_nil, ↓List.length_cons, ↓List.length_nil, Nat.reduceAdd, Nat.reduceSub, Nat.sub_self, List.replicate, ↓List.cons_append, ↓List.nil_append, List.append_nil, ↓List.getElem?_cons_zero, ↓List.getElem?_cons_succ, ↓List.set_cons_zero, ↓List.set_cons_succ, wipeD, Bool.not_true, Bool.not_false, decide_true, decide_false, beq_self_eq_true, true_and, and_true, Nat.reduceLeDiff, toDs, toDk, toDs_sh, ↓zS_ii, ↓zS_bi, ↓zS_ownO, ↓zS_normX]
    rw [bT_app, bT_app]
    have bl := bent_len (b := !l.getD k false) kl
    refine ⟨by rw [bT_len, bT_len, List.length_take, List.length_singleton, sizeLine_eq]; omega, by rw [bT_len, sizeLine_eq]; omega, ?_, at_10 s hl4 h8 (bl.trans hl) fun o8 o10 => hN _ _ o10⟩
    rw [bT_len, bT_len, ← List.length_append, bl, sizeLine_eq]
    omega
  · rw [iteS_neg q]
    simp only [↓zHd0, zHp0, ↓zGd0, ↓zGd1, ↓zGd2, ↓zGd3, ↓zGd4, zGp0, startD, startC, ↓List.map_cons, ↓List.map_nil, ↓List.length_cons, ↓List.length_nil, Nat.reduceAdd, Nat.reduceSub, Nat.sub_self, List.replicate, ↓List.cons_append, ↓List.nil_append, List.append_nil, ↓List.getElem?_cons_zero, ↓List.getElem?_cons_succ, ↓List.set_cons_zero, ↓List.set_cons_succ, wipeD, Bool.not_true, Bool.not_false, decide_true, decide_false, beq_self_eq_true, true_and, and_true, Nat.reduceLeDiff, toDs, toDk, toDs_sh, ↓zS_ii, ↓zS_bi, ↓zS_ownO, ↓zS_normX]
    exact at_10 s hl4 h8 hl fun o8 o10 => hN _ _ o10
theorem l_1 (hN : ∀ o2 o3 o4 o5 o6 o7 o8 o9 o10 o11, W.nx [none, some (.sh .bag), o2, o3, o4, o5, o6, o7, o8, o9, o10, o11]) : b_law_1 W [none, some (.sh .bag), o2, o3, o4, o5, o6, o7, o8, o9, o10, o11] := by
  simp only [b_law_1, ↓zHd0, zHp0, ↓zGd0, ↓zGd1, ↓zGd2, ↓zGd3, ↓zGd4, zGp0, startD, startC, ↓List.map_cons, ↓List.map_nil, ↓List.length_cons, ↓List.length_nil, Nat.reduceAdd, Nat.reduceSub, Nat.sub_self, List.replicate, ↓List.cons_append, ↓List.nil_append, List.append_nil, ↓List.getElem?_cons_zero, ↓List.getElem?_cons_succ, ↓List.set_cons_zero, ↓List.set_cons_succ, wipeD, Bool.not_true, Bool.not_false, decide_true, decide_false, beq_self_eq_true, true_and, and_true, Nat.reduceLeDiff, toDs, toDk, toDs_sh, ↓zS_ii, ↓zS_bi, ↓zS_ownO, ↓zS_normX]
  refine take_of (by decide) (by decide) fun a a0 a1 => ?_
  try simp only [↓zHd0, zHp0, ↓zGd0, ↓zGd1, ↓zGd2, ↓zGd3, ↓zGd4, zGp0, startD, startC, ↓List.map_cons, ↓List.map_nil, ↓List.length_cons, ↓List.length_nil, Nat.reduceAdd, Nat.reduceSub, Nat.sub_self, List.replicate, ↓List.cons_append, ↓List.nil_append, List.append_nil, ↓List.getElem?_cons_zero, ↓List.getElem?_cons_succ, ↓List.set_cons_zero, ↓List.set_cons_succ, wipeD, Bool.not_true, Bool.not_false, decide_true, decide_false, beq_self_eq_true, true_and, and_true, Nat.reduceLeDiff, toDs, toDk, toDs_sh, ↓zS_ii, ↓zS_bi, ↓zS_ownO, ↓zS_normX]
  refine take_of (by decide) (by decide) fun b b0 b1 => ?_
  try simp only [↓zHd0, zHp0, ↓zGd0, ↓zGd1, ↓zGd2, ↓zGd3, ↓zGd4, zGp0, startD, startC, ↓List.map_cons, ↓List.map_nil, ↓List.length_cons, ↓List.length_nil, Nat.reduceAdd, Nat.reduceSub, Nat.sub_self, List.replicate, ↓List.cons_append, ↓List.nil_append, List.append_nil, ↓List.getElem?_cons_zero, ↓List.getElem?_cons_succ, ↓List.set_cons_zero, ↓List.set_cons_succ, wipeD, Bool.not_true, Bool.not_false, decide_true, decide_false, beq_self_eq_true, true_and, and_true, Nat.reduceLeDiff, toDs, toDk, toDs_sh, ↓zS_ii, ↓zS_bi, ↓zS_ownO, ↓zS_normX]
  refine take_of (by decide) (by decide) fun c c0 c1 => ?_
  try simp only [↓zHd0, zHp0, ↓zGd0, ↓zGd1, ↓zGd2, ↓zGd3, ↓zGd4, zGp0, startD, startC, ↓List.map_cons, ↓List.map_nil, ↓List.length_cons, ↓List.length_nil, Nat.reduceAdd, Nat.reduceSub, Nat.sub_self, List.replicate, ↓List.cons_append, ↓List.nil_append, List.append_nil, ↓List.getElem?_cons_zero, ↓List.getElem?_cons_succ, ↓List.set_cons_zero, ↓List.set_cons_succ, wipeD, Bool.not_true, Bool.not_false, decide_true, decide_false, beq_self_eq_true, true_and, and_true, Nat.reduceLeDiff, toDs, toDk, toDs_sh, ↓zS_ii, ↓zS_bi, ↓zS_ownO, ↓zS_normX]
  intro u v w
  obtain ⟨n, hn⟩ : ∃ n : Nat, 1 + a = (n : Int) := ⟨(1 + a).toNat, by omega⟩
  obtain ⟨m, hm⟩ : ∃ n : Nat, 1 + b = (n : Int) := ⟨(1 + b).toNat, by omega⟩
  obtain ⟨R, hR⟩ : ∃ n : Nat, 1 + c = (n : Int) := ⟨(1 + c).toNat, by omega⟩
  rw [hn, hm, hR]
  simp only [law_at_4, ↓zHd0, zHp0, ↓zGd0, ↓zGd1, ↓zGd2, ↓zGd3, ↓zGd4, zGp0, startD, startC, ↓List.map_cons, ↓List.map_nil, ↓List.length_cons, ↓List.length_nil, Nat.reduceAdd, Nat.reduceSub, Nat.sub_self, List.replicate, ↓List.cons_append, ↓List.nil_append, List.append_nil, ↓List.getElem?_cons_zero, ↓List.getElem?_cons_succ, ↓List.set_cons_zero, ↓List.set_cons_succ, wipeD, Bool.not_true, Bool.not_false, decide_true, decide_false, beq_self_eq_true, true_and, and_true, Nat.reduceLeDiff, toDs, toDk, toDs_sh, ↓zS_ii, ↓zS_bi, ↓zS_ownO, ↓zS_normX]
  refine forms_ok fun fs h1 h2 h3 => ?_
  have s : Szs n m R fs := ⟨by omega, by omega, by omega, by omega, by omega, by omega, h1, by omega⟩
  have hb0 : n * m ≤ 8 * 8 := Nat.mul_le_mul s.n8 s.m8
  have hb : R * (n * m) ≤ 6 * (8 * 8) := Nat.mul_le_mul s.R6 hb0
  simp only [law_at_5, ↓zHd0, zHp0, ↓zGd0, ↓zGd1, ↓zGd2, ↓zGd3, ↓zGd4, zGp0, startD, startC, ↓List.map_cons, ↓List.map_nil, ↓List.length_cons, ↓List.length_nil, Nat.reduceAdd, Nat.reduceSub, Nat.sub_self, List.replicate, ↓List.cons_append, ↓List.nil_append, List.append_nil, ↓List.getElem?_cons_zero, ↓List.getElem?_cons_succ, ↓List.set_cons_zero, ↓List.set_cons_succ, wipeD, Bool.not_true, Bool.not_false, decide_true, decide_false, beq_self_eq_true, true_and, and_true, Nat.reduceLeDiff, toDs, toDk, toDs_sh, ↓zS_ii, ↓zS_bi, ↓zS_ownO, ↓zS_normX]
  refine size_ok h1 h3 ?_
  simp only [↓zHd0, zHp0, ↓zGd0, ↓zGd1, ↓zGd2, ↓zGd3, ↓zGd4, zGp0, startD, startC, ↓List.map_cons, ↓List.map_nil, ↓List.length_cons, ↓List.length_nil, Nat.reduceAdd, Nat.reduceSub, Nat.sub_self, List.replicate, ↓List.cons_append, ↓List.nil_append, List.append_nil, ↓List.getElem?_cons_zero, ↓List.getElem?_cons_succ, ↓List.set_cons_zero, ↓List.set_cons_succ, wipeD, Bool.not_true, Bool.not_false, decide_true, decide_false, beq_self_eq_true, true_and, and_true, Nat.reduceLeDiff, toDs, toDk, toDs_sh, ↓zS_ii, ↓zS_bi, ↓zS_ownO, ↓zS_normX]
  refine ⟨⟨by omega, by omega⟩, by rw [Int.toNat_natCast, ups_len, sizeLine_eq]; omega, ?_⟩
  rw [Int.toNat_natCast]
  refine draw_bT (fun k K hK => ?_) (szF fs) 0 [] fun t ht => ?_
  · simp only [↓zHd0, zHp0, ↓zGd0, ↓zGd1, ↓zGd2, ↓zGd3, ↓zGd4, zGp0, startD, startC, ↓List.map_cons, ↓List.map_nil, ↓List.length_cons, ↓List.length_nil, Nat.reduceAdd, Nat.reduceSub, Nat.sub_self, List.replicate, ↓List.cons_append, ↓List.nil_append, List.append_nil, ↓List.getElem?_cons_zero, ↓List.getElem?_cons_succ, ↓List.set_cons_zero, ↓List.set_cons_succ, wipeD, Bool.not_true, Bool.not_false, decide_true, decide_false, beq_self_eq_true, true_and, and_true, Nat.reduceLeDiff, toDs, toDk, toDs_sh, ↓zS_ii, ↓zS_bi, ↓zS_ownO, ↓zS_normX]
    refine take_of (by decide) (by decide) fun a a0 a1 => ?_
    obtain ⟨b, rfl⟩ : ∃ b : Nat, a = (b : Int) := ⟨a.toNat, by omega⟩
    exact ix01 (by omega) (hK _)
  · rw [List.length_nil, Nat.zero_add] at ht
    refine join_bits (by omega) ?_
    simp only [law_at_6, ↓zHd0, zHp0, ↓zGd0, ↓zGd1, ↓zGd2, ↓zGd3, ↓zGd4, zGp0, startD, startC, ↓List.map_cons, ↓List.map_nil, ↓List.length_cons, ↓List.length_nil, Nat.reduceAdd, Nat.reduceSub, Nat.sub_self, List.replicate, ↓List.cons_append, ↓List.nil_append, List.append_nil, ↓List.getElem?_cons_zero, ↓List.getElem?_cons_succ, ↓List.set_cons_zero, ↓List.set_cons_succ, wipeD, Bool.not_true, Bool.not_false, decide_true, decide_false, beq_self_eq_true, true_and, and_true, Nat.reduceLeDiff, toDs, toDk, toDs_sh, ↓zS_ii, ↓zS_bi, ↓zS_ownO, ↓zS_normX]
    refine woven_ok s h3 ht ?_
    exact at_7 s h3 h2 wvn_len fun o8 o9 o10 => hN _ _ _ _ _ _ _ _ _ _
end
theorem vc_law : t_law { nx := fun _ => False, rt := fun d => d = .bl true } [none, some (.sh .bag), none, none, none, none, none, none, none, none, none, none] := by
  have k2 : ∀ W (i : Int) (c : Nat), forD (gN 2) b_law_1 W (ups i (c + 1)) = forD (gN 2) b_law_1 W (.int i :: ups (i + 1) c) := fun W i c => by rw [ups_succ]
  simp only [t_law, ↓zHd0, zHp0, ↓zGd0, ↓zGd1, ↓zGd2, ↓zGd3, ↓zGd4, zGp0, startD, startC, ↓List.map_cons, ↓List.map_nil, ↓List.length_cons, ↓List.length_nil, Nat.reduceAdd, Nat.reduceSub, Nat.sub_self, List.replicate, ↓List.cons_append, ↓List.nil_append, List.append_nil, ↓List.getElem?_cons_zero, ↓List.getElem?_cons_succ, ↓List.set_cons_zero, ↓List.set_cons_succ, wipeD, Bool.not_true, Bool.not_false, decide_true, decide_false, beq_self_eq_true, true_and, and_true, Nat.reduceLeDiff, toDs, toDk, toDs_sh, ↓zS_ii, ↓zS_bi, ↓zS_ownO, ↓zS_normX]
  refine ⟨by decide, ?_⟩
  rw [show Int.toNat 2 = 2 from rfl, k2, forD_c]
  simp only [↓zHd0, zHp0, ↓zGd0, ↓zGd1, ↓zGd2, ↓zGd3, ↓zGd4, zGp0, startD, startC, ↓List.map_cons, ↓List.map_nil, ↓List.length_cons, ↓List.length_nil, Nat.reduceAdd, Nat.reduceSub, Nat.sub_self, List.replicate, ↓List.cons_append, ↓List.nil_append, List.append_nil, ↓List.getElem?_cons_zero, ↓List.getElem?_cons_succ, ↓List.set_cons_zero, ↓List.set_cons_succ, wipeD, Bool.not_true, Bool.not_false, decide_true, decide_false, beq_self_eq_true, true_and, and_true, Nat.reduceLeDiff, toDs, toDk, toDs_sh, ↓zS_ii, ↓zS_bi, ↓zS_ownO, ↓zS_normX]
  refine l_1 fun o2 o3 o4 o5 o6 o7 o8 o9 o10 o11 => ?_
  dsimp only
  rw [k2, forD_c]
  simp only [↓zHd0, zHp0, ↓zGd0, ↓zGd1, ↓zGd2, ↓zGd3, ↓zGd4, zGp0, startD, startC, ↓List.map_cons, ↓List.map_nil, ↓List.length_cons, ↓List.length_nil, Nat.reduceAdd, Nat.reduceSub, Nat.sub_self, List.replicate, ↓List.cons_append, ↓List.nil_append, List.append_nil, ↓List.getElem?_cons_zero, ↓List.getElem?_cons_succ, ↓List.set_cons_zero, ↓List.set_cons_succ, wipeD, Bool.not_true, Bool.not_false, decide_true, decide_false, beq_self_eq_true, true_and, and_true, Nat.reduceLeDiff, toDs, toDk, toDs_sh, ↓zS_ii, ↓zS_bi, ↓zS_ownO, ↓zS_normX]
  refine l_1 fun o2 o3 o4 o5 o6 o7 o8 o9 o10 o11 => ?_
  dsimp only
  rw [ups_zero, forD_n]
  dsimp only
  simp only [law_at_15, ↓zHd0, zHp0, ↓zGd0, ↓zGd1, ↓zGd2, ↓zGd3, ↓zGd4, zGp0, startD, startC, ↓List.map_cons, ↓List.map_nil, ↓List.length_cons, ↓List.length_nil, Nat.reduceAdd, Nat.reduceSub, Nat.sub_self, List.replicate, ↓List.cons_append, ↓List.nil_append, List.append_nil, ↓List.getElem?_cons_zero, ↓List.getElem?_cons_succ, ↓List.set_cons_zero, ↓List.set_cons_succ, wipeD, Bool.not_true, Bool.not_false, decide_true, decide_false, beq_self_eq_true, true_and, and_true, Nat.reduceLeDiff, toDs, toDk, toDs_sh, ↓zS_ii, ↓zS_bi, ↓zS_ownO, ↓zS_normX]
def spLaw (K : PySem.W.Frag) : Sp := fun vs H P _ => ∃ (a : Addr) (ns : List Int), vs = [.ref a] ∧ SqL K H a (ns.map V.int) ∧ ns.length ≤ 63 ∧ ∀ H', P (.bl true) H'
theorem pss_ex {α : Type} {X : Cx} {sts : List Stmt} {f : α → TS} (h : ∀ b, PSs X sts (f b)) : PSs X sts (fun D σ H => ∃ b, f b D σ H) := ⟨fun pins s σ H D I ⟨b, q⟩ => (h b).run pins s σ H D I q⟩
theorem d_law {P : Program} {w : World} {K : PySem.W.Frag} {mg : Str → Option Value} {base : Heap} {B : Bx} (T : Top K mg B.ct) {cdv : Value} {A : Around} {outer : List Env} {s : Shared} {H : Hp} {E : XK} (hgd : A.guards = some []) (hr : Room 5 (A.deeper (envOfC "law" (defScope s_law) s.heap.objs.size T.f_law.f cdv))) :
    PSsD (cxOf CX0 P w K mg base ["_law_script", "_law_bag_here", "_law_turn", "_law_n", "_law_m", "_law_rounds", "_law_forms", "_law_bits", "_law_text", "_law_at", "_law_cloth", "_law_k"] "law" (defScope s_law) T.f_law.f cdv A outer s H E).nox B ((defBody s_law).drop 1) t_law := by
  have hgd : (cxOf CX0 P w K mg base ["_law_script", "_law_bag_here", "_law_turn", "_law_n", "_law_m", "_law_rounds", "_law_forms", "_law_bits", "_law_text", "_law_at", "_law_cloth", "_law_k"] "law" (defScope s_law) T.f_law.f cdv A outer s H E).nox.A.guards = some [] := hgd
  have hu70 : (cxOf CX0 P w K mg base ["_law_script", "_law_bag_here", "_law_turn", "_law_n", "_law_m", "_law_rounds", "_law_forms", "_law_bits", "_law_text", "_law_at", "_law_cloth", "_law_k"] "law" (defScope s_law) T.f_law.f cdv A outer s H E).nox.A.units + 70 < cLine := Nat.lt_of_le_of_lt (Nat.add_le_add_left (by decide : 70 ≤ 16 * 5 + 200) _) hr.un
  refine psd_cons ?_ ?_
  · refine psd_for PassesOwn.never rfl (pid_r1 (by rfl) T.n_range (pad_cons pd_int pad_nil)) (pgd_name (i := 2) sc_law.nd rfl (by first | exact .inl rfl | exact .inr rfl)) ?_
    refine psd_cons ?_ ?_
    · refine (psd_par3 (i := 3) (j := 4) (l := 5) rfl sc_law.nd rfl rfl rfl (by decide) (by decide) (by decide) rfl rfl rfl (pao_cons (po_d (pd_bin op_add_d pd_int (pd_callD T.f__law_take (ok__law_take T) hr (by decide) (by rfl) (pad_cons (pd_var 1) (pad_cons pd_int pad_nil))))) (pao_cons (po_d (pd_bin op_add_d pd_int (pd_callD T.f__law_take (ok__law_take T) hr (by decide) (by rfl) (pad_cons (pd_var 1) (pad_cons pd_int pad_nil))))) (pao_cons (po_d (pd_bin op_add_d pd_int (pd_callD T.f__law_take (ok__law_take T) hr (by decide) (by rfl) (pad_cons (pd_var 1) (pad_cons pd_int pad_nil))))) pao_nil))) (by rfl))
    refine psd_cons ?_ ?_
    · refine (psd_set (i := 6) sc_law.nd rfl (by first | exact .inl rfl | exact .inr rfl) (pd_callD T.f__law_my_forms (ok__law_my_forms T) hr (by decide) (by rfl) (pad_cons (pd_var 1) (pad_cons pd_int (pad_cons pd_int pad_nil)))))
    refine psd_cons ?_ ?_
    · refine (psd_set (i := 7) sc_law.nd rfl (by first | exact .inl rfl | exact .inr rfl) (pd_bm PySem.F.plainAttrs_str PySem.F.slot_str_join PySem.F.type_str_join mt_join_d pd_str (pad_cons (pd_f (pf_lc rfl sc_law.nd (pid_r1 (by rfl) T.n_range ?h5) (blkOk_by (own := [("_law_k", 11)]) (by rfl)) (by decide) (fun _ _ _ _ _ => (pgd_name (i := 11) sc_law.nd rfl (by first | exact .inl rfl | exact .inr rfl))) (fun _ _ _ _ _ => ptsd_nil) (fun _ _ _ _ _ => ?h6))) pad_nil)))
      case h5 => exact (pad_cons (pd_callD T.f__law_my_size (ok__law_my_size T) hr (by decide) (by rfl) (pad_cons (pd_var 6) pad_nil)) pad_nil)
      case h6 => exact (pd_ix ix_d pd_str (pd_callD T.f__law_take (ok__law_take T) hr (by decide) (by rfl) (pad_cons (pd_var 1) (pad_cons pd_int pad_nil))))
    refine psd_cons ?_ ?_
    · refine (psd_set (i := 8) sc_law.nd rfl (by first | exact .inl rfl | exact .inr rfl) (pd_callD T.f__law_my_woven (ok__law_my_woven T) hr (by decide) (by rfl) (pad_cons (pd_var 6) (pad_cons (pd_var 7) (pad_cons (pd_var 3) (pad_cons (pd_var 4) (pad_cons (pd_var 5) pad_nil)))))))
    refine psd_cons ?_ ?_
    · refine psd_if (ptd_cmp (op_eq_d hr.units) (pd_callD T.f__law_take (ok__law_take T) hr (by decide) (by rfl) (pad_cons (pd_var 1) (pad_cons pd_int pad_nil))) pd_int (by rfl)) ?_ ?_
      · refine psd_cons ?_ ?_
        · refine (psd_set (i := 9) sc_law.nd rfl (by first | exact .inl rfl | exact .inr rfl) (pd_callD T.f__law_take (ok__law_take T) hr (by decide) (by rfl) (pad_cons (pd_var 1) (pad_cons (pd_callB call_len_d (by rfl) T.n_len (by decide +kernel) (pad_cons (pd_var 8) pad_nil)) pad_nil))))
        refine psd_one ?_
        refine (psd_set (i := 8) sc_law.nd rfl (by first | exact .inl rfl | exact .inr rfl) (pd_bin op_add_d (pd_bin op_add_d (pd_slice (pd_var 8) pod_none (pod_some (pd_var 9))) (pd_dget (room_u1 hr) (pd_dic (ppd_cons pd_str (ppd_cons pd_str ppd_nil)) (by decide) rfl rfl (by intro z; cases z) (by decide) (by decide)) (pd_ix ix_d (pd_var 8) (pd_var 9)) (fun _ _ => rfl))) (pd_slice (pd_var 8) (pod_some (pd_bin op_add_d (pd_var 9) pd_int)) pod_none)))
      · exact psd_nil
    refine psd_cons ?_ ?_
    · refine psd_if (ptd_cmp (op_eq_d hr.units) (pd_callD T.f__law_take (ok__law_take T) hr (by decide) (by rfl) (pad_cons (pd_var 1) (pad_cons pd_int pad_nil))) pd_int (by rfl)) ?_ ?_
      · refine psd_one ?_
        refine (psd_set (i := 8) sc_law.nd rfl (by first | exact .inl rfl | exact .inr rfl) (pd_bm PySem.F.plainAttrs_str PySem.F.slot_str_join PySem.F.type_str_join mt_join_d pd_str (pad_cons (pd_f (pf_lc rfl sc_law.nd (pid_r1 (by rfl) T.n_range ?h7) (blkOk_by (own := [("_law_k", 11)]) (by rfl)) (by decide) (fun _ _ _ _ _ => (pgd_name (i := 11) sc_law.nd rfl (by first | exact .inl rfl | exact .inr rfl))) (fun _ _ _ _ _ => ptsd_nil) (fun _ _ _ _ _ => ?h8))) pad_nil)))
        case h7 => exact (pad_cons (pd_callB call_len_d (by rfl) T.n_len (by decide +kernel) (pad_cons (pd_var 8) pad_nil)) pad_nil)
        case h8 => exact (pd_ix ix_d pd_str (pd_callD T.f__law_take (ok__law_take T) hr (by decide) (by rfl) (pad_cons (pd_var 1) (pad_cons pd_int pad_nil))))
      · exact psd_nil
    refine psd_cons ?_ ?_
    · refine (psd_set (i := 10) sc_law.nd rfl (by first | exact .inl rfl | exact .inr rfl) (pd_fz (po_callD T.f__law_my_shuffled (ok__law_my_shuffled T) hr (by decide) (by rfl) (pad_cons (pd_var 1) (pad_cons (pd_callD T.f__law_my_crossings (ok__law_my_crossings T) hr (by decide) (by rfl) (pad_cons (pd_var 8) (pad_cons (pd_var 3) (pad_cons (pd_var 4) (pad_cons (pd_var 5) pad_nil))))) pad_nil)))))
    refine psd_one ?_
    refine psd_if (ptd_not (ptd_val (pd_callDG T.f__law_right (ok__law_right T) hgd hr (by decide) (by rfl) (pad_cons (pd_var 10) (pad_cons (pd_var 8) (pad_cons (pd_var 6) (pad_cons (pd_var 3) (pad_cons (pd_var 4) (pad_cons (pd_var 5) pad_nil))))))))) ?_ ?_
    · refine psd_one ?_
      refine (psd_ret pd_bl)
    · exact psd_nil
  refine psd_one ?_
  refine (psd_ret pd_bl)
theorem ok_law {P : Program} {w : World} {K : PySem.W.Frag} {mg : Str → Option Value} {base : Heap} {ct : Nat → Addr} (T : Top K mg ct) : FnG P w K mg base CX0 6 T.f_law.f T.f_law.fd ["_law_script"] (spLaw K) := by
  refine fng_of (k := 5) T.f_law.fn sc_law (fun vs H Q E h => ?_) (fun cdv A outer s H vs Q E hgd hr h => ?_)
  · obtain ⟨a, ns, rfl, _⟩ := h
    rfl
  obtain ⟨a, ns, rfl, hS, hl, q⟩ := h
  have rest : ∀ b : Addr × Addr, PSsD (cxOf CX0 P w K mg base ["_law_script", "_law_bag_here", "_law_turn", "_law_n", "_law_m", "_law_rounds", "_law_forms", "_law_bits", "_law_text", "_law_at", "_law_cloth", "_law_k"] "law" (defScope s_law) T.f_law.f cdv A outer s H E).nox ⟨b.1, b.2, ct, [], none⟩ ((defBody s_law).drop 1) t_law := fun b => d_law (B := ⟨b.1, b.2, ct, [], none⟩) T hgd hr
  refine ⟨_, PSs.nox (pss_cons (ps_set (i := 1) sc_law.nd rfl (by first | exact .inl rfl | exact .inr rfl) (pe_call (ok__law_bag T) (hr.mono (by decide)) (by rfl) T.f__law_bag.at_ T.f__law_bag.fn.kp T.f__law_bag.bd .nil pass0 (pa_cons (pv 0) pa_nil))) (pss_ex rest)), ?_⟩
  refine ⟨.ref a, rfl, a, ns, rfl, hS, hl, fun b L H2 hb hL ne ex h1 h2 => ?_⟩
  let G : Hp := upd (fun _ => none) L (.lst ((ns.map absI).map V.int))
  have exG : Ex G H2 := fun x o hx => by
    by_cases e : x = L
    · subst e
      have hx : upd (fun _ => none) x (.lst ((ns.map absI).map V.int)) x = some o := hx
      rw [upd_same] at hx
      cases hx
      exact h2
    · have hx : upd (fun _ => none) L (.lst ((ns.map absI).map V.int)) x = some o := hx
      rw [upd_ne e] at hx
      cases hx
  have gb : G b = none := by
    show upd (fun _ => none) L _ b = none
    rw [upd_ne (Ne.symm ne)]
  have jn : Jn K ⟨b, L, ct, [], none⟩ G H2 := by
    refine ⟨exG, gb, ⟨0, 1234567891, 0, ns.map absI, h1, sq_of upd_same, by decide, by decide, by decide, by decide, fun n hn => ?_, by rw [List.length_map]; exact hl⟩, { tb := fun _ z => (nomatch z), ex := fun _ z => (nomatch z), keep := fun _ z => (nomatch z), old := fun _ z => (nomatch z) }⟩
    obtain ⟨m, _, rfl⟩ := List.mem_map.mp hn
    unfold absI
    split <;> omega
  refine ⟨(b, L), G, H2, G, [none, some (.sh .bag), none, none, none, none, none, none, none, none, none, none], { nx := fun _ => False, rt := fun d => d = .bl true }, Gr.refl jn, ?_, vc_law, ⟨fun _ _ _ _ z => z.elim, fun _ _ _ _ z => z.elim, fun _ _ _ _ z => z.elim, fun d v G3 H3 z _ _ hd => ?_, fun _ _ _ _ _ z => z.elim, fun _ _ _ _ _ _ z => z.elim, fun _ _ _ _ _ _ z => z.elim⟩⟩
  · have s0 := start_ok (K := K) (B := ⟨b, L, ct, [], none⟩) (H0 := H2) (G := G) (H := H2) (N := ["_law_script", "_law_bag_here", "_law_turn", "_law_n", "_law_m", "_law_rounds", "_law_forms", "_law_bits", "_law_text", "_law_at", "_law_cloth", "_law_k"]) (vs := []) (ds := []) .nil
    exact (s0.forget (i := 0) (o := some (.ref a))).set (i := 1) (v := .ref b) (d := .bag) .bag
  · have z : d = .bl true := z
    subst z
    cases hd
    exact q _
theorem mkc_Word {K : PySem.W.Frag} {C : Addr} (aC : PySem.W.nsIn K mainGlobals "Word" = some (some (.ref C))) (c : SlX.SCls K C) (s_Word_its_again : SlotAt K C "its_again" 0) (s_Word_its_early : SlotAt K C "its_early" 1) (i_Word_again : (∃ t : InAt K "again" "Word.again" s_Word_again ["self"], PrpAt K C "again" t.f)) (i_Word_early : (∃ t : InAt K "early" "Word.early" s_Word_early ["self"], PrpAt K C "early" t.f)) (i_Word___init__ : (∃ t : InAt K "__init__" "Word.__init__" s_Word___init__ ["self", "early", "again"], Mk K C t.f)) : ∃ C : Addr, PySem.W.nsIn K mainGlobals "Word" = some (some (.ref C)) ∧ SlX.SCls K C ∧ SlotAt K C "its_again" 0 ∧ SlotAt K C "its_early" 1 ∧ (∃ t : InAt K "again" "Word.again" s_Word_again ["self"], PrpAt K C "again" t.f) ∧ (∃ t : InAt K "early" "Word.early" s_Word_early ["self"], PrpAt K C "early" t.f) ∧ (∃ t : InAt K "__init__" "Word.__init__" s_Word___init__ ["self", "early", "again"], Mk K C t.f) := ⟨C, aC, c, s_Word_its_again, s_Word_its_early, i_Word_again, i_Word_early, i_Word___init__⟩
theorem mkc_Sums {K : PySem.W.Frag} {C : Addr} (aC : PySem.W.nsIn K mainGlobals "Sums" = some (some (.ref C))) (c : SlX.SCls K C) (s_Sums_its_rows : SlotAt K C "its_rows" 0) (i_Sums_rank : (∃ t : InAt K "rank" "Sums.rank" s_Sums_rank ["self"], Meth K C "rank" t.f)) (i_Sums___init__ : (∃ t : InAt K "__init__" "Sums.__init__" s_Sums___init__ ["self"], Mk K C t.f)) (i_Sums_reduced : (∃ t : InAt K "reduced" "Sums.reduced" s_Sums_reduced ["self", "mask", "bit", "taken"], Meth K C "reduced" t.f)) (i_Sums_put : (∃ t : InAt K "put" "Sums.put" s_Sums_put ["self", "mask", "bit", "taken"], Meth K C "put" t.f)) : ∃ C : Addr, PySem.W.nsIn K mainGlobals "Sums" = some (some (.ref C)) ∧ SlX.SCls K C ∧ SlotAt K C "its_rows" 0 ∧ (∃ t : InAt K "rank" "Sums.rank" s_Sums_rank ["self"], Meth K C "rank" t.f) ∧ (∃ t : InAt K "__init__" "Sums.__init__" s_Sums___init__ ["self"], Mk K C t.f) ∧ (∃ t : InAt K "reduced" "Sums.reduced" s_Sums_reduced ["self", "mask", "bit", "taken"], Meth K C "reduced" t.f) ∧ (∃ t : InAt K "put" "Sums.put" s_Sums_put ["self", "mask", "bit", "taken"], Meth K C "put" t.f) := ⟨C, aC, c, s_Sums_its_rows, i_Sums_rank, i_Sums___init__, i_Sums_reduced, i_Sums_put⟩
theorem fin {l : PySem.W.OpenLaw} {w : World} {K : PySem.W.Frag} {h : Heap} {mg : Str → Option Value} {fa : Addr} (X : K.In h) (G : h.Ns mainGlobals mg) (hfa : mg "law" = some (.ref fa))
    (d_many_characters : Nonempty (DefAt K mg "many_characters" s_many_characters ["forms"]))
    (d_every_meeting : Nonempty (DefAt K mg "every_meeting" s_every_meeting ["suns", "moons", "rounds"]))
    (d_mask_at : Nonempty (DefAt K mg "mask_at" s_mask_at ["forms", "meeting", "suns", "moons"]))
    (d_numbers_of : Nonempty (DefAt K mg "numbers_of" s_numbers_of ["crossings"]))
    (d_sums_of : Nonempty (DefAt K mg "sums_of" s_sums_of ["crossings", "forms"]))
    (d_many_told : Nonempty (DefAt K mg "many_told" s_many_told ["crossings", "forms"]))
    (d_are_bits : Nonempty (DefAt K mg "are_bits" s_are_bits ["thing"]))
    (d_told_back : Nonempty (DefAt K mg "told_back" s_told_back ["crossings", "forms"]))
    (d__law_bag : Nonempty (DefAt K mg "_law_bag" s__law_bag ["_law_script"]))
    (d__law_my_crossings : Nonempty (DefAt K mg "_law_my_crossings" s__law_my_crossings ["_law_text", "_law_n", "_law_m", "_law_rounds"]))
    (d__law_take : Nonempty (DefAt K mg "_law_take" s__law_take ["_law_bag_here", "_law_many"]))
    (d__law_pick : Nonempty (DefAt K mg "_law_pick" s__law_pick ["_law_bag_here", "_law_things"]))
    (d__law_my_forms : Nonempty (DefAt K mg "_law_my_forms" s__law_my_forms ["_law_bag_here", "_law_many", "_law_size"]))
    (d__law_mixed : Nonempty (DefAt K mg "_law_mixed" s__law_mixed ["_law_bag_here", "_law_things"]))
    (d__law_my_shuffled : Nonempty (DefAt K mg "_law_my_shuffled" s__law_my_shuffled ["_law_bag_here", "_law_cloth"]))
    (d__law_my_size : Nonempty (DefAt K mg "_law_my_size" s__law_my_size ["_law_forms"]))
    (d__law_my_meetings : Nonempty (DefAt K mg "_law_my_meetings" s__law_my_meetings ["_law_n", "_law_m", "_law_rounds"]))
    (d__law_my_places : Nonempty (DefAt K mg "_law_my_places" s__law_my_places ["_law_forms", "_law_r", "_law_i", "_law_j", "_law_n", "_law_m"]))
    (d__law_my_woven : Nonempty (DefAt K mg "_law_my_woven" s__law_my_woven ["_law_forms", "_law_bits", "_law_n", "_law_m", "_law_rounds"]))
    (d__law_alike : Nonempty (DefAt K mg "_law_alike" s__law_alike ["_law_found", "_law_due"]))
    (d__law_my_cut : Nonempty (DefAt K mg "_law_my_cut" s__law_my_cut ["_law_forms", "_law_bits"]))
    (d__law_my_shown : Nonempty (DefAt K mg "_law_my_shown" s__law_my_shown ["_law_words"]))
    (d__law_my_strings : Nonempty (DefAt K mg "_law_my_strings" s__law_my_strings ["_law_size"]))
    (d__law_right : Nonempty (DefAt K mg "_law_right" s__law_right ["_law_cloth", "_law_text", "_law_forms", "_law_n", "_law_m", "_law_rounds"]))
    (d_law : ∃ t : DefAt K mg "law" s_law ["_law_script"], ∀ (s : Shared) (v : Value), BindsTo s t.fd ⟨[v], []⟩ [("_law_script", v)])
    (c_Word : ∃ C : Addr, PySem.W.nsIn K mainGlobals "Word" = some (some (.ref C)) ∧ SlX.SCls K C ∧ SlotAt K C "its_again" 0 ∧ SlotAt K C "its_early" 1 ∧ (∃ t : InAt K "again" "Word.again" s_Word_again ["self"], PrpAt K C "again" t.f) ∧ (∃ t : InAt K "early" "Word.early" s_Word_early ["self"], PrpAt K C "early" t.f) ∧ (∃ t : InAt K "__init__" "Word.__init__" s_Word___init__ ["self", "early", "again"], Mk K C t.f))
    (c_Sums : ∃ C : Addr, PySem.W.nsIn K mainGlobals "Sums" = some (some (.ref C)) ∧ SlX.SCls K C ∧ SlotAt K C "its_rows" 0 ∧ (∃ t : InAt K "rank" "Sums.rank" s_Sums_rank ["self"], Meth K C "rank" t.f) ∧ (∃ t : InAt K "__init__" "Sums.__init__" s_Sums___init__ ["self"], Mk K C t.f) ∧ (∃ t : InAt K "reduced" "Sums.reduced" s_Sums_reduced ["self", "mask", "bit", "taken"], Meth K C "reduced" t.f) ∧ (∃ t : InAt K "put" "Sums.put" s_Sums_put ["self", "mask", "bit", "taken"], Meth K C "put" t.f))
    (n_abs : PySem.W.nsIn K mainGlobals "abs" = some none)
    (n_all : PySem.W.nsIn K mainGlobals "all" = some none)
    (n_dict : PySem.W.nsIn K mainGlobals "dict" = some none)
    (n_enumerate : PySem.W.nsIn K mainGlobals "enumerate" = some none)
    (n_int : PySem.W.nsIn K mainGlobals "int" = some none)
    (n_isinstance : PySem.W.nsIn K mainGlobals "isinstance" = some none)
    (n_len : PySem.W.nsIn K mainGlobals "len" = some none)
    (n_list : PySem.W.nsIn K mainGlobals "list" = some none)
    (n_max : PySem.W.nsIn K mainGlobals "max" = some none)
    (n_range : PySem.W.nsIn K mainGlobals "range" = some none)
    (n_repr : PySem.W.nsIn K mainGlobals "repr" = some none)
    (n_str : PySem.W.nsIn K mainGlobals "str" = some none)
    (n_sum : PySem.W.nsIn K mainGlobals "sum" = some none)
    : ∃ fd : FuncData, (∀ (s : Shared) (v : Value), BindsTo s fd ⟨[v], []⟩ [("_law_script", v)]) ∧ ∀ base : Heap, K.In base → base.Ns mainGlobals mg → FnG l.prog w K mg base CX0 6 fa fd ["_law_script"] (spLaw K) := by
  obtain ⟨t_many_characters⟩ := d_many_characters
  obtain ⟨t_every_meeting⟩ := d_every_meeting
  obtain ⟨t_mask_at⟩ := d_mask_at
  obtain ⟨t_numbers_of⟩ := d_numbers_of
  obtain ⟨t_sums_of⟩ := d_sums_of
  obtain ⟨t_many_told⟩ := d_many_told
  obtain ⟨t_are_bits⟩ := d_are_bits
  obtain ⟨t_told_back⟩ := d_told_back
  obtain ⟨t__law_bag⟩ := d__law_bag
  obtain ⟨t__law_my_crossings⟩ := d__law_my_crossings
  obtain ⟨t__law_take⟩ := d__law_take
  obtain ⟨t__law_pick⟩ := d__law_pick
  obtain ⟨t__law_my_forms⟩ := d__law_my_forms
  obtain ⟨t__law_mixed⟩ := d__law_mixed
  obtain ⟨t__law_my_shuffled⟩ := d__law_my_shuffled
  obtain ⟨t__law_my_size⟩ := d__law_my_size
  obtain ⟨t__law_my_meetings⟩ := d__law_my_meetings
  obtain ⟨t__law_my_places⟩ := d__law_my_places
  obtain ⟨t__law_my_woven⟩ := d__law_my_woven
  obtain ⟨t__law_alike⟩ := d__law_alike
  obtain ⟨t__law_my_cut⟩ := d__law_my_cut
  obtain ⟨t__law_my_shown⟩ := d__law_my_shown
  obtain ⟨t__law_my_strings⟩ := d__law_my_strings
  obtain ⟨t__law_right⟩ := d__law_right
  obtain ⟨t_law, hb⟩ := d_law
  obtain ⟨C_Word, vg_Word, vc_Word, vs_Word_its_again, vs_Word_its_early, ⟨vi_Word_again, vp_Word_again⟩, ⟨vi_Word_early, vp_Word_early⟩, ⟨vi_Word___init__, vmk_Word⟩⟩ := c_Word
  obtain ⟨C_Sums, vg_Sums, vc_Sums, vs_Sums_its_rows, ⟨vi_Sums_rank, vm_Sums_rank⟩, ⟨vi_Sums___init__, vmk_Sums⟩, ⟨vi_Sums_reduced, vm_Sums_reduced⟩, ⟨vi_Sums_put, vm_Sums_put⟩⟩ := c_Sums
  have e := hfa.symm.trans t_law.at_
  have e : fa = t_law.f := by injection e with e; injection e
  subst e
  exact ⟨t_law.fd, hb, fun base _ _ => ok_law (ct := fun n => match n with | 0 => C_Word | 9 => C_Sums | _ => 0) { i_Word_again := vi_Word_again, i_Word_early := vi_Word_early, i_Sums_rank := vi_Sums_rank, f_many_characters := t_many_characters, i_Sums___init__ := vi_Sums___init__, i_Sums_reduced := vi_Sums_reduced, i_Sums_put := vi_Sums_put, f_every_meeting := t_every_meeting, f_mask_at := t_mask_at, f_numbers_of := t_numbers_of, f_sums_of := t_sums_of, f_many_told := t_many_told, f_are_bits := t_are_bits, i_Word___init__ := vi_Word___init__, f_told_back := t_told_back, f__law_bag := t__law_bag, f__law_my_crossings := t__law_my_crossings, f__law_take := t__law_take, f__law_pick := t__law_pick, f__law_my_forms := t__law_my_forms, f__law_mixed := t__law_mixed, f__law_my_shuffled := t__law_my_shuffled, f__law_my_size := t__law_my_size, f__law_my_meetings := t__law_my_meetings, f__law_my_places := t__law_my_places, f__law_my_woven := t__law_my_woven, f__law_alike := t__law_alike, f__law_my_cut := t__law_my_cut, f__law_my_shown := t__law_my_shown, f__law_my_strings := t__law_my_strings, f__law_right := t__law_right, f_law := t_law, c_Word := vc_Word, g_Word := (PySem.W.mg_of X G vg_Word), s_Word_its_again := vs_Word_its_again, s_Word_its_early := vs_Word_its_early, mk_Word := vmk_Word, p_Word_again := vp_Word_again, p_Word_early := vp_Word_early, c_Sums := vc_Sums, g_Sums := (PySem.W.mg_of X G vg_Sums), s_Sums_its_rows := vs_Sums_its_rows, mk_Sums := vmk_Sums, m_Sums_rank := vm_Sums_rank, m_Sums_reduced := vm_Sums_reduced, m_Sums_put := vm_Sums_put, n_abs := (PySem.W.mg_none_of X G n_abs), n_all := (PySem.W.mg_none_of X G n_all), n_dict := (PySem.W.mg_none_of X G n_dict), n_enumerate := (PySem.W.mg_none_of X G n_enumerate), n_int := (PySem.W.mg_none_of X G n_int), n_isinstance := (PySem.W.mg_none_of X G n_isinstance), n_len := (PySem.W.mg_none_of X G n_len), n_list := (PySem.W.mg_none_of X G n_list), n_max := (PySem.W.mg_none_of X G n_max), n_range := (PySem.W.mg_none_of X G n_range), n_repr := (PySem.W.mg_none_of X G n_repr), n_str := (PySem.W.mg_none_of X G n_str), n_sum := (PySem.W.mg_none_of X G n_sum) }⟩
end My
open PySem PySem.W PyProof.Rows in
set_option maxRecDepth 100000 in
set_option maxHeartbeats 0 in
theorem PySem.Challenge.cw_poleribbons_k70_told_back_by_all_words_holds : PySem.Challenge.rw_poleribbons_k70_told_back_by_all_words.Holds := by
  refine My.early.h (My.Wrap.mk ?_)
  unfold My.early
  dsimp only
  k_fill
  refine DL.walk_g (l := PySem.Challenge.rw_poleribbons_k70_told_back_by_all_words) (n := 63) (k := 6) (x := "_law_script") (sp := fun w => My.spLaw _) rfl (by decide) rfl ⟨rfl, by decide, by decide⟩ (fun w h Y => PySem.W.kIn_of Y) ?F (fun _ _ a ns hl _ hS => ⟨a, ns, rfl, hS, hl, fun _ => rfl⟩)
  case F =>
    as_aux_lemma =>
      intro w mg fa h KX G hmg
      replace hmg : mg "law" = some (.ref fa) := hmg
      refine' My.fin KX G hmg ?d_many_characters ?d_every_meeting ?d_mask_at ?d_numbers_of ?d_sums_of ?d_many_told ?d_are_bits ?d_told_back ?d__law_bag ?d__law_my_crossings ?d__law_take ?d__law_pick ?d__law_my_forms ?d__law_mixed ?d__law_my_shuffled ?d__law_my_size ?d__law_my_meetings ?d__law_my_places ?d__law_my_woven ?d__law_alike ?d__law_my_cut ?d__law_my_shown ?d__law_my_strings ?d__law_right ?d_law ?c_Word ?c_Sums ?n_abs ?n_all ?n_dict ?n_enumerate ?n_int ?n_isinstance ?n_len ?n_list ?n_max ?n_range ?n_repr ?n_str ?n_sum
      case d_many_characters =>
        refine' DL.ex_def KX G (fun _ _ _ _ _ _ us hl => match us, hl with | [_], _ => rfl) ?a ?l ?c ?k
        (case a => k_is); (case l => k_is); (case c => k_is); (case k => k_is)
      case d_every_meeting =>
        refine' DL.ex_def KX G (fun _ _ _ _ _ _ us hl => match us, hl with | [_, _, _], _ => rfl) ?a ?l ?c ?k
        (case a => k_is); (case l => k_is); (case c => k_is); (case k => k_is)
      case d_mask_at =>
        refine' DL.ex_def KX G (fun _ _ _ _ _ _ us hl => match us, hl with | [_, _, _, _], _ => rfl) ?a ?l ?c ?k
        (case a => k_is); (case l => k_is); (case c => k_is); (case k => k_is)
      case d_numbers_of =>
        refine' DL.ex_def KX G (fun _ _ _ _ _ _ us hl => match us, hl with | [_], _ => rfl) ?a ?l ?c ?k
        (case a => k_is); (case l => k_is); (case c => k_is); (case k => k_is)
      case d_sums_of =>
        refine' DL.ex_def KX G (fun _ _ _ _ _ _ us hl => match us, hl with | [_, _], _ => rfl) ?a ?l ?c ?k
        (case a => k_is); (case l => k_is); (case c => k_is); (case k => k_is)
      case d_many_told =>
        refine' DL.ex_def KX G (fun _ _ _ _ _ _ us hl => match us, hl with | [_, _], _ => rfl) ?a ?l ?c ?k
        (case a => k_is); (case l => k_is); (case c => k_is); (case k => k_is)
      case d_are_bits =>
        refine' DL.ex_def KX G (fun _ _ _ _ _ _ us hl => match us, hl with | [_], _ => rfl) ?a ?l ?c ?k
        (case a => k_is); (case l => k_is); (case c => k_is); (case k => k_is)
      case d_told_back =>
        refine' DL.ex_def KX G (fun _ _ _ _ _ _ us hl => match us, hl with | [_, _], _ => rfl) ?a ?l ?c ?k
        (case a => k_is); (case l => k_is); (case c => k_is); (case k => k_is)
      case d__law_bag =>
        refine' DL.ex_def KX G (fun _ _ _ _ _ _ us hl => match us, hl with | [_], _ => rfl) ?a ?l ?c ?k
        (case a => k_is); (case l => k_is); (case c => k_is); (case k => k_is)
      case d__law_my_crossings =>
        refine' DL.ex_def KX G (fun _ _ _ _ _ _ us hl => match us, hl with | [_, _, _, _], _ => rfl) ?a ?l ?c ?k
        (case a => k_is); (case l => k_is); (case c => k_is); (case k => k_is)
      case d__law_take =>
        refine' DL.ex_def KX G (fun _ _ _ _ _ _ us hl => match us, hl with | [_, _], _ => rfl) ?a ?l ?c ?k
        (case a => k_is); (case l => k_is); (case c => k_is); (case k => k_is)
      case d__law_pick =>
        refine' DL.ex_def KX G (fun _ _ _ _ _ _ us hl => match us, hl with | [_, _], _ => rfl) ?a ?l ?c ?k
        (case a => k_is); (case l => k_is); (case c => k_is); (case k => k_is)
      case d__law_my_forms =>
        refine' DL.ex_def KX G (fun _ _ _ _ _ _ us hl => match us, hl with | [_, _, _], _ => rfl) ?a ?l ?c ?k
        (case a => k_is); (case l => k_is); (case c => k_is); (case k => k_is)
      case d__law_mixed =>
        refine' DL.ex_def KX G (fun _ _ _ _ _ _ us hl => match us, hl with | [_, _], _ => rfl) ?a ?l ?c ?k
        (case a => k_is); (case l => k_is); (case c => k_is); (case k => k_is)
      case d__law_my_shuffled =>
        refine' DL.ex_def KX G (fun _ _ _ _ _ _ us hl => match us, hl with | [_, _], _ => rfl) ?a ?l ?c ?k
        (case a => k_is); (case l => k_is); (case c => k_is); (case k => k_is)
      case d__law_my_size =>
        refine' DL.ex_def KX G (fun _ _ _ _ _ _ us hl => match us, hl with | [_], _ => rfl) ?a ?l ?c ?k
        (case a => k_is); (case l => k_is); (case c => k_is); (case k => k_is)
      case d__law_my_meetings =>
        refine' DL.ex_def KX G (fun _ _ _ _ _ _ us hl => match us, hl with | [_, _, _], _ => rfl) ?a ?l ?c ?k
        (case a => k_is); (case l => k_is); (case c => k_is); (case k => k_is)
      case d__law_my_places =>
        refine' DL.ex_def KX G (fun _ _ _ _ _ _ us hl => match us, hl with | [_, _, _, _, _, _], _ => rfl) ?a ?l ?c ?k
        (case a => k_is); (case l => k_is); (case c => k_is); (case k => k_is)
      case d__law_my_woven =>
        refine' DL.ex_def KX G (fun _ _ _ _ _ _ us hl => match us, hl with | [_, _, _, _, _], _ => rfl) ?a ?l ?c ?k
        (case a => k_is); (case l => k_is); (case c => k_is); (case k => k_is)
      case d__law_alike =>
        refine' DL.ex_def KX G (fun _ _ _ _ _ _ us hl => match us, hl with | [_, _], _ => rfl) ?a ?l ?c ?k
        (case a => k_is); (case l => k_is); (case c => k_is); (case k => k_is)
      case d__law_my_cut =>
        refine' DL.ex_def KX G (fun _ _ _ _ _ _ us hl => match us, hl with | [_, _], _ => rfl) ?a ?l ?c ?k
        (case a => k_is); (case l => k_is); (case c => k_is); (case k => k_is)
      case d__law_my_shown =>
        refine' DL.ex_def KX G (fun _ _ _ _ _ _ us hl => match us, hl with | [_], _ => rfl) ?a ?l ?c ?k
        (case a => k_is); (case l => k_is); (case c => k_is); (case k => k_is)
      case d__law_my_strings =>
        refine' DL.ex_def KX G (fun _ _ _ _ _ _ us hl => match us, hl with | [_], _ => rfl) ?a ?l ?c ?k
        (case a => k_is); (case l => k_is); (case c => k_is); (case k => k_is)
      case d__law_right =>
        refine' DL.ex_def KX G (fun _ _ _ _ _ _ us hl => match us, hl with | [_, _, _, _, _, _], _ => rfl) ?a ?l ?c ?k
        (case a => k_is); (case l => k_is); (case c => k_is); (case k => k_is)
      case d_law =>
        refine' DL.ex_law KX G (fun _ _ _ _ _ _ us hl => match us, hl with | [_], _ => rfl) ?a ?l ?c ?k
        (case a => k_is); (case l => k_is); (case c => k_is); (case k => k_is)
      case c_Word =>
        refine' My.mkc_Word ?aC ?c ?s_Word_its_again ?s_Word_its_early ?i_Word_again ?i_Word_early ?i_Word___init__
        case aC =>
          k_is
        case c =>
          exact ⟨by k_is, by k_is, by k_is, by k_is⟩
        case s_Word_its_again =>
          refine' DL.ex_slot ?a ?g ?tk ?ty ?ix ?lt
          (case a => k_is); (case g => k_is); (case tk => k_is); (case ty => k_is); (case ix => k_is); (case lt => decide)
        case s_Word_its_early =>
          refine' DL.ex_slot ?a ?g ?tk ?ty ?ix ?lt
          (case a => k_is); (case g => k_is); (case tk => k_is); (case ty => k_is); (case ix => k_is); (case lt => decide)
        case i_Word_again =>
          refine' DL.ex_prop (fun _ _ _ _ _ _ us hl => match us, hl with | [_], _ => rfl) ?a ?g ?tk ?r ?l ?c ?k
          (case a => k_is); (case g => k_is); (case tk => k_is); (case r => k_is); (case l => k_is); (case c => k_is); (case k => k_is)
        case i_Word_early =>
          refine' DL.ex_prop (fun _ _ _ _ _ _ us hl => match us, hl with | [_], _ => rfl) ?a ?g ?tk ?r ?l ?c ?k
          (case a => k_is); (case g => k_is); (case tk => k_is); (case r => k_is); (case l => k_is); (case c => k_is); (case k => k_is)
        case i_Word___init__ =>
          refine' DL.ex_init (fun _ _ _ _ _ _ us hl => match us, hl with | [_, _, _], _ => rfl) ?a ?i ?l ?c ?k ?mk ?kc
          (case a => k_is); (case i => k_is); (case l => k_is); (case c => k_is); (case k => k_is); (case mk => k_is); (case kc => k_is)
      case c_Sums =>
        refine' My.mkc_Sums ?aC ?c ?s_Sums_its_rows ?i_Sums_rank ?i_Sums___init__ ?i_Sums_reduced ?i_Sums_put
        case aC =>
          k_is
        case c =>
          exact ⟨by k_is, by k_is, by k_is, by k_is⟩
        case s_Sums_its_rows =>
          refine' DL.ex_slot ?a ?g ?tk ?ty ?ix ?lt
          (case a => k_is); (case g => k_is); (case tk => k_is); (case ty => k_is); (case ix => k_is); (case lt => decide)
        case i_Sums_rank =>
          refine' DL.ex_meth (fun _ _ _ _ _ _ us hl => match us, hl with | [_], _ => rfl) ?a ?i ?l ?c ?k
          (case a => k_is); (case i => k_is); (case l => k_is); (case c => k_is); (case k => k_is)
        case i_Sums___init__ =>
          refine' DL.ex_init (fun _ _ _ _ _ _ us hl => match us, hl with | [_], _ => rfl) ?a ?i ?l ?c ?k ?mk ?kc
          (case a => k_is); (case i => k_is); (case l => k_is); (case c => k_is); (case k => k_is); (case mk => k_is); (case kc => k_is)
        case i_Sums_reduced =>
          refine' DL.ex_meth (fun _ _ _ _ _ _ us hl => match us, hl with | [_, _, _, _], _ => rfl) ?a ?i ?l ?c ?k
          (case a => k_is); (case i => k_is); (case l => k_is); (case c => k_is); (case k => k_is)
        case i_Sums_put =>
          refine' DL.ex_meth (fun _ _ _ _ _ _ us hl => match us, hl with | [_, _, _, _], _ => rfl) ?a ?i ?l ?c ?k
          (case a => k_is); (case i => k_is); (case l => k_is); (case c => k_is); (case k => k_is)
      case n_abs =>
        k_is
      case n_all =>
        k_is
      case n_dict =>
        k_is
      case n_enumerate =>
        k_is
      case n_int =>
        k_is
      case n_isinstance =>
        k_is
      case n_len =>
        k_is
      case n_list =>
        k_is
      case n_max =>
        k_is
      case n_range =>
        k_is
      case n_repr =>
        k_is
      case n_str =>
        k_is
      case n_sum =>
        k_is
