import PyProof.Rows.All
import Wide.All
import OpenK.AllK
import Wide.FinOn
import HandS.ForMost
import HandS.Exc
import HandS.Evl
import HandS.Slots
import HandS.Lambda
import HandS.EndBits
import PyProof.ReprRoads
import PyProof.StrLawsRepr
import HandS.Wide
import HandS.IsInst
import HandS.Style
import HandS.TupAny
import HandS.Star
import HandS.NoneIn
import HandS.SlotsOwn
import PyProof.InstNe
import HandS.Iter
import HandS.SetFor
import HandS.Strs
import HandS.Zip
import HandS.Conv
import KE.GoesMore
import HandS.Deep
import HandS.OwnEq
import HandS.DictComp
import PyProof.DictFindH
import HandS.DictEq
import HandS.DeepEq
import KE.SortData
import HandS.TupLen
import KE.KDictCopyH
import KE.KDictSum
import KE.KDictPairs
import HandS.SetBool
import HandS.TupSets
import HandS.SetKeys
import KE.KDictDisplayH
import KE.KEqDict
import KE.KRevSl
import HandS.Replace
import HandS.ReplaceLit
import HandS.ReplaceDef
import HandS.ReplaceList
import HandS.Text
import KE.KExcSuper
import KE.KSuper
import HandS.ExcInit
import HandS.Nested
import HandS.WordsExc
import KE.KExcIs
import HandS.ExcIs
import HandS.ExcField
import KE.KLam
import HandS.EndTab
import PyProof.IsInstance
import KE.KEqNest
import HandS.ListItems
import HandS.Defaults
import HandS.OwnIter
import HandS.IterNext
import PyProof.TupleOfGen
import KE.KOpsOwn
import KE.DataMinMax
import PyProof.Rows.RowBridgeK
import OpenK.KMeth
import PyProof.IsRules
import PyProof.EqAt
import PyProof.ReprReads
import PyProof.ReprNest
import HandS.IntHex
import PyProof.CollectStr
import KE.DataFind
import PyProof.EqKinds
import PyProof.FactsAll.dict
import KE.KDictWalk
import HandS.DictTup
import HandS.IterVal
import KE.KOwnIter
import PySem.Challenge.RW_poleribbons_k60_heaps_told
import KE.OsRunLaw
set_option Elab.async false
set_option linter.all false
set_option maxRecDepth 100000
set_option maxHeartbeats 8000000
namespace My
open PySem PySem.W in
def Kt (K : Params → Frag) (ts : List Addr) : Params → Frag := fun P => K P ++ ts.map fun a => (a, tabObj #[])
def At (as ts : List Addr) : List Addr := as ++ ts
structure Wrap (X : Prop) : Prop where
  get : X
structure Early (A : Prop) : Type where
  X : Prop
  h : Wrap X → A
end My
open PySem PySem.W in
local macro_rules | `(tactic| o_head (kmHook $K $as $e $ts)) => `(tactic| o_headL (kHook (My.Kt $K $ts) (My.At $as $ts) (fun _ => by kernel_rfl)))
open PySem PySem.W in
local macro_rules | `(tactic| o_head (kHook $K $as $e)) => `(tactic| o_headL (kHook $K $as $e))
open Lean PySem PySem.W in
local macro_rules | `(tactic| refine $t:term) => do
  let r := t.raw
  unless r.isOfKind ``Lean.Parser.Term.app do Macro.throwUnsupported
  let as := r[1].getArgs
  let some l := as.back? | Macro.throwUnsupported
  unless l.isOfKind ``Lean.Parser.Term.syntheticHole && l[1].isIdent && l[1].getId.eraseMacroScopes == `hc do Macro.throwUnsupported
  let g ← `((My.Wrap.get (by assumption)))
  let n : TSyntax `term := ⟨r.setArg 1 (r[1].setArgs (as.pop.push g))⟩
  `(tactic| refine $n)
open PySem PySem.W PyProof.Rows in
set_option Elab.async false in
set_option maxRecDepth 100000 in
set_option maxHeartbeats 0 in
noncomputable def My.early : My.Early PySem.Challenge.rw_poleribbons_k60_heaps_told.Holds := by
  refine' My.Early.mk _ fun h => ?Y
  case Y => w_on; o_law; k_head; (case hw => w_witness2)
namespace DL
open PySem PySem.Spec PyProof.Rows L2 Evl
/-- the bag's place, the classes' places -/
structure Bx where
  b : Addr
  L : Addr
  ct : Nat → Addr
  tb : List (Addr × Str) := []
  up : Option (Hp × Hp) := none
/-- nothing that moves stands there -/
def Bx.st (B : Bx) (p : Addr) : Prop := p ≠ B.b ∧ ∀ t ∈ B.tb, p ≠ t.1
/-- .. and it is younger than the anchor -/
def Bx.nb (B : Bx) (p : Addr) : Prop := B.st p ∧ ∀ u, B.up = some u → u.2 p = none
inductive D where
  | non | bl (b : Bool) | int (i : Int) | str (x : Str) | lst (xs : List D) | tup (xs : List D)
  | dic (ks : List (D × D)) | obj (c : Nat) (fs : List D) | bag | ktup (xs : List D)
def embK : Key → D
  | .inl i => .int i
  | .inr x => .str x
def embT (k : List Key) : D := .tup (k.map embK)
mutual
inductive Dat (K : PySem.W.Frag) (B : Bx) (G : Hp) : V → D → Prop
  | non : Dat K B G .non .non
  | bl (b : Bool) : Dat K B G (.bl b) (.bl b)
  | int (i : Int) : Dat K B G (.int i) (.int i)
  | str (x : Str) : Dat K B G (.str x) (.str x)
  | lst {a : Addr} {xs : List V} {ds : List D} : G a = some (.lst xs) → Dats K B G xs ds → Dat K B G (.ref a) (.lst ds)
  | tup {a : Addr} {xs : List V} {ds : List D} : G a = some (.tup xs) → Dats K B G xs ds → Dat K B G (.ref a) (.tup ds)
  | ktup {a : Addr} {xs : List V} {ds : List D} : SqT K G a xs → Dats K B G xs ds → Dat K B G (.ref a) (.ktup ds)
  | dK {a : Addr} {od : Obj} {kvs : List (Key × V)} {ds : List (D × D)} : G a = some (.frz od (.dK kvs)) → DatK K B G kvs ds → Dat K B G (.ref a) (.dic ds)
  | dT {a : Addr} {od : Obj} {kvs : List (List Key × V)} {ds : List (D × D)} : G a = some (.frz od (.dT kvs)) → DatT K B G kvs ds → Dat K B G (.ref a) (.dic ds)
  | bag : Dat K B G (.ref B.b) .bag
  | obj {a dx : Addr} {C : Nat} {vs : List V} {fs : List D} : G a = some (SlX.SlO a (B.ct C) dx (vs.map some)) → G dx = some (.xd []) → Dats K B G vs fs → Dat K B G (.ref a) (.obj C fs)
inductive Dats (K : PySem.W.Frag) (B : Bx) (G : Hp) : List V → List D → Prop
  | nil : Dats K B G [] []
  | cons {v : V} {vs : List V} {d : D} {ds : List D} : Dat K B G v d → Dats K B G vs ds → Dats K B G (v :: vs) (d :: ds)
inductive DatK (K : PySem.W.Frag) (B : Bx) (G : Hp) : List (Key × V) → List (D × D) → Prop
  | nil : DatK K B G [] []
  | consI {i : Int} {v : V} {d : D} {vs : List (Key × V)} {ds : List (D × D)} : Dat K B G v d → DatK K B G vs ds → DatK K B G ((.inl i, v) :: vs) ((.int i, d) :: ds)
  | consS {x : Str} {v : V} {d : D} {vs : List (Key × V)} {ds : List (D × D)} : Dat K B G v d → DatK K B G vs ds → DatK K B G ((.inr x, v) :: vs) ((.str x, d) :: ds)
inductive DatT (K : PySem.W.Frag) (B : Bx) (G : Hp) : List (List Key × V) → List (D × D) → Prop
  | nil : DatT K B G [] []
  | cons {k : List Key} {v : V} {d : D} {vs : List (List Key × V)} {ds : List (D × D)} : Dat K B G v d → DatT K B G vs ds → DatT K B G ((k, v) :: vs) ((embT k, d) :: ds)
end
section
variable {K : PySem.W.Frag} {B : Bx} {G G' : Hp}
mutual
theorem Dat.mono (e : Ex G G') : ∀ {v : V} {d : D}, Dat K B G v d → Dat K B G' v d
  | _, _, .non => .non
  | _, _, .bl b => .bl b
  | _, _, .int i => .int i
  | _, _, .str x => .str x
  | _, _, .lst h t => .lst (e _ _ h) (Dats.mono e t)
  | _, _, .tup h t => .tup (e _ _ h) (Dats.mono e t)
  | _, _, .ktup h t => .ktup (ex_t e h) (Dats.mono e t)
  | _, _, .dK h t => .dK (e _ _ h) (DatK.mono e t)
  | _, _, .dT h t => .dT (e _ _ h) (DatT.mono e t)
  | _, _, .bag => .bag
  | _, _, .obj h h2 t => .obj (e _ _ h) (e _ _ h2) (Dats.mono e t)
theorem Dats.mono (e : Ex G G') : ∀ {v : List V} {d : List D}, Dats K B G v d → Dats K B G' v d
  | _, _, .nil => .nil
  | _, _, .cons h t => .cons (Dat.mono e h) (Dats.mono e t)
theorem DatK.mono (e : Ex G G') : ∀ {v : List (Key × V)} {d : List (D × D)}, DatK K B G v d → DatK K B G' v d
  | _, _, .nil => .nil
  | _, _, .consI h t => .consI (Dat.mono e h) (DatK.mono e t)
  | _, _, .consS h t => .consS (Dat.mono e h) (DatK.mono e t)
theorem DatT.mono (e : Ex G G') : ∀ {v : List (List Key × V)} {d : List (D × D)}, DatT K B G v d → DatT K B G' v d
  | _, _, .nil => .nil
  | _, _, .cons h t => .cons (Dat.mono e h) (DatT.mono e t)
end
theorem Dats.len : ∀ {v : List V} {d : List D}, Dats K B G v d → v.length = d.length
  | _, _, .nil => rfl
  | _, _, .cons _ t => by rw [List.length_cons, List.length_cons, Dats.len t]
theorem Dats.get : ∀ {v : List V} {d : List D} {i : Nat} {x : D}, Dats K B G v d → d[i]? = some x → ∃ u, v[i]? = some u ∧ Dat K B G u x
  | _, _, _, _, .nil, e => by simp at e
  | _, _, 0, _, .cons r _, e => by simp at e; subst e; exact ⟨_, rfl, r⟩
  | _, _, i + 1, x, .cons _ t, e => by
    obtain ⟨u, h1, h2⟩ := Dats.get (i := i) (x := x) t (by simpa using e)
    exact ⟨u, by simpa using h1, h2⟩
theorem Dats.append : ∀ {v w : List V} {d e : List D}, Dats K B G v d → Dats K B G w e → Dats K B G (v ++ w) (d ++ e)
  | _, _, _, _, .nil, s => s
  | _, _, _, _, .cons r t, s => .cons r (Dats.append t s)
theorem Dats.drop : ∀ {v : List V} {d : List D} (n : Nat), Dats K B G v d → Dats K B G (v.drop n) (d.drop n)
  | _, _, 0, r => r
  | _, _, _ + 1, .nil => .nil
  | _, _, n + 1, .cons _ t => Dats.drop n t
theorem Dats.take : ∀ {v : List V} {d : List D} (n : Nat), Dats K B G v d → Dats K B G (v.take n) (d.take n)
  | _, _, 0, _ => .nil
  | _, _, _ + 1, .nil => .nil
  | _, _, n + 1, .cons r t => .cons r (Dats.take n t)
theorem Dats.rep {v : List V} {d : List D} (h : Dats K B G v d) : ∀ k : Nat, Dats K B G (List.replicate k v).flatten (List.replicate k d).flatten
  | 0 => .nil
  | k + 1 => by
    rw [List.replicate_succ, List.replicate_succ, List.flatten_cons, List.flatten_cons]
    exact h.append (Dats.rep h k)
end
/-- a tuple that is known stands there -/
theorem tx {K : PySem.W.Frag} {G H : Hp} {a : Addr} {xs : List V} (e : Ex G H) (h : G a = some (.tup xs)) : SqT K H a xs := st_of (e _ _ h)
def BagOk (K : PySem.W.Frag) (B : Bx) (G H : Hp) : Prop :=
  ∃ (a b c : Int) (ns : List Int), H B.b = some (.lst [.int a, .int b, .int c, .ref B.L]) ∧ SqL K G B.L (ns.map V.int) ∧ 0 ≤ a ∧ 0 ≤ b ∧ b < 2147483647 ∧ 0 ≤ c ∧ (∀ n ∈ ns, 0 ≤ n) ∧ ns.length ≤ 63
/-- what may be learnt where it stands: a tuple, a code object -/
def Lrn (a : Addr) (o : HO) : Prop := (∃ vs, o = .tup vs) ∨ ∃ q, o = LamX.CodeO a q
theorem nl {a : Addr} {o : HO} (h : (match o with | .tup _ => false | .ext _ => false | _ => true) = true) : ¬ Lrn a o := by
  rintro (⟨vs, rfl⟩ | ⟨q, rfl⟩)
  · cases h
  · unfold LamX.CodeO at h
    cases h
theorem nlx {a : Addr} {φ : Heap → Prop} (h : ∀ hp o, φ hp → hp.get? a = some o → o.cls ≠ .none) : ¬ Lrn a (.ext φ) := by
  rintro (⟨vs, e⟩ | ⟨q, e⟩)
  · cases e
  · unfold LamX.CodeO at e
    injection e with e
    have g : ({ objs := Array.replicate (a + 1) ({ cls := .none, data := .fields #[.none, .str q default] } : Obj) } : Heap).get? a = some ({ cls := .none, data := .fields #[.none, .str q default] } : Obj) := by
      show (match (Array.replicate (a + 1) ({ cls := .none, data := .fields #[.none, .str q default] } : Obj))[a]? with | some ⟨_, _, .freed, _⟩ => none | o => o) = _
      rw [Array.getElem?_replicate, if_pos (Nat.lt_succ_self a)]
    refine h _ _ ?_ g rfl
    rw [e]
    exact ⟨_, _, _, g, rfl, rfl⟩
/-- something that may not be learnt stands there -/
def Mu (H : Hp) (a : Addr) : Prop := ∃ o, H a = some o ∧ ¬ Lrn a o
theorem Mu.ne {H : Hp} {a : Addr} (h : Mu H a) : H a ≠ none := by
  obtain ⟨o, e, _⟩ := h
  rw [e]
  simp
/-- a table of code stands there, its code objects known -/
def TabG (G H : Hp) (P : Addr) (q : Str) : Prop := ∃ ps : Array Value, H P = some (.tbl ps) ∧ TriplesOk ps.toList ∧ ∀ (pos : Pos) (cv : Value), codeAmong pos ps.toList = some cv → ∃ c, cv = .ref c ∧ G c = some (LamX.CodeO c q)
/-- the tables of code stand; all is as it was at the anchor, or grown -/
structure Xt (B : Bx) (G H : Hp) : Prop where
  tb : ∀ t ∈ B.tb, TabG G H t.1 t.2 ∧ G t.1 = none
  ex : ∀ u, B.up = some u → Ex u.1 G
  keep : ∀ u, B.up = some u → ∀ a o, B.st a → u.2 a = some o → H a = some o
  old : ∀ u, B.up = some u → ∀ a, Mu u.2 a → G a = u.1 a
/-- no table of code -/
def noTb : HO → Bool
  | .tbl _ => false
  | _ => true
structure Jn (K : PySem.W.Frag) (B : Bx) (G H : Hp) : Prop where
  ex : Ex G H
  no : G B.b = none
  bag : BagOk K B G H
  xt : Xt B G H
/-- what is of the anchor's time and may not be learnt still stands so -/
theorem Jn.mu {K : PySem.W.Frag} {B : Bx} {G H : Hp} (j : Jn K B G H) (u : Hp × Hp) (hu : B.up = some u) (a : Addr) (m : Mu u.2 a) : Mu H a := by
  by_cases e : a = B.b
  · subst e
    obtain ⟨_, _, _, _, ho, _⟩ := j.bag
    exact ⟨_, ho, nl rfl⟩
  · by_cases e2 : ∃ t ∈ B.tb, a = t.1
    · obtain ⟨t, h, rfl⟩ := e2
      obtain ⟨⟨ps, h1, _⟩, _⟩ := j.xt.tb t h
      exact ⟨_, h1, nl rfl⟩
    · obtain ⟨o, h1, h2⟩ := m
      exact ⟨o, j.xt.keep u hu a o ⟨e, fun t h z => e2 ⟨t, h, z⟩⟩ h1, h2⟩
theorem Jn.next {K : PySem.W.Frag} {B : Bx} {G H G2 H2 : Hp} (j : Jn K B G H) (ex : Ex G G2) (hk : ∀ a o, ¬ B.nb a → H a = some o → H2 a = some o) (hg : ∀ a, ¬ B.nb a → Mu H a → G2 a = G a)
    (ht : ∀ t ∈ B.tb, (∃ ps, H t.1 = some (.tbl ps)) → H2 t.1 = H t.1 ∧ (G t.1 = none → G2 t.1 = none)) (_ : ∀ a ps, H2 a = some (.tbl ps) → ∃ ps', H a = some (.tbl ps')) : Xt B G2 H2 where
  tb := fun t h => by
    obtain ⟨⟨ps, a, b, c⟩, d⟩ := j.xt.tb t h
    obtain ⟨e1, e2⟩ := ht t h ⟨ps, a⟩
    exact ⟨⟨ps, e1.trans a, b, fun pos cv z => let ⟨c0, z1, z2⟩ := c pos cv z; ⟨c0, z1, ex _ _ z2⟩⟩, e2 d⟩
  ex := fun u h => (j.xt.ex u h).trans ex
  keep := fun u h a o s e => hk a o (fun n => by have z := n.2 u h; rw [z] at e; cases e) (j.xt.keep u h a o s e)
  old := fun u h a m => by
    rw [hg a (fun n => m.ne (n.2 u h)) (j.mu u h a m)]
    exact j.xt.old u h a m
/-- .. where one object was put -/
theorem tbUpd {H : Hp} {p : Addr} {o : HO} (ho : noTb o = true) : ∀ a ps, upd H p o a = some (.tbl ps) → ∃ ps', H a = some (.tbl ps') := fun a ps h => by
  by_cases e : a = p
  · subst e
    rw [upd_same] at h
    cases h
    cases ho
  · rw [upd_ne e] at h
    exact ⟨_, h⟩
/-- the place of an own thing is no table -/
theorem Bx.nb.tab {B : Bx} {p : Addr} (n : B.nb p) : ∀ t ∈ B.tb, t.1 ≠ p := fun t h z => n.1.2 t h z.symm
structure Gr (K : PySem.W.Frag) (B : Bx) (G H G2 H2 : Hp) : Prop where
  ex : Ex G G2
  kp : ∀ a o, B.st a → H a = some o → H2 a = some o
  j : Jn K B G2 H2
  old : ∀ a, Mu H a → G2 a = G a
section
variable {K : PySem.W.Frag} {B : Bx} {G H G2 H2 G3 H3 : Hp}
theorem Jn.at (j : Jn K B G H) : ∃ o, H B.b = some o := let ⟨_, _, _, _, h, _⟩ := j.bag; ⟨_, h⟩
theorem Gr.keep (x : Gr K B G H G2 H2) (a : Addr) (o : HO) (n : B.nb a) (h : H a = some o) : H2 a = some o := x.kp a o n.1 h
theorem Gr.refl (j : Jn K B G H) : Gr K B G H G H := ⟨Ex.refl G, fun _ _ _ h => h, j, fun _ _ => rfl⟩
theorem Gr.mu (x : Gr K B G H G2 H2) {a : Addr} (h : Mu H a) : Mu H2 a := by
  by_cases e : a = B.b
  · subst e
    obtain ⟨_, _, _, _, ho, _⟩ := x.j.bag
    exact ⟨_, ho, nl rfl⟩
  · by_cases e2 : ∃ t ∈ B.tb, a = t.1
    · obtain ⟨t, ht, rfl⟩ := e2
      obtain ⟨⟨ps, h1, _⟩, _⟩ := x.j.xt.tb t ht
      exact ⟨_, h1, nl rfl⟩
    · obtain ⟨o, q, n⟩ := h
      exact ⟨o, x.kp a o ⟨e, fun t ht z => e2 ⟨t, ht, z⟩⟩ q, n⟩
/-- what stands somewhere goes on to stand there -/
theorem Gr.stay (x : Gr K B G H G2 H2) {a : Addr} {o : HO} (h : H a = .some o) : H2 a ≠ none := by
  by_cases e : a = B.b
  · subst e
    obtain ⟨o, ho⟩ := x.j.at
    rw [ho]
    simp
  · by_cases e2 : ∃ t ∈ B.tb, a = t.1
    · obtain ⟨t, ht, rfl⟩ := e2
      obtain ⟨⟨ps, h1, _⟩, _⟩ := x.j.xt.tb t ht
      rw [h1]
      simp
    · rw [x.kp a o ⟨e, fun t ht z => e2 ⟨t, ht, z⟩⟩ h]
      simp
theorem Gr.trans (x : Gr K B G H G2 H2) (y : Gr K B G2 H2 G3 H3) : Gr K B G H G3 H3 where
  ex := x.ex.trans y.ex
  kp := fun a o n h => y.kp a o n (x.kp a o n h)
  j := y.j
  old := fun a h => by
    rw [y.old a (x.mu h), x.old a h]
/-- a new object, known from now on -/
theorem Gr.new {p : Addr} {o : HO} (j : Jn K B G H) (hp : H p = none) (ho : noTb o = true := by rfl) : Gr K B G H (upd G p o) (upd H p o) := by
  have np : G p = none := fresh_back j.ex hp
  have nb : B.b ≠ p := fun e => by obtain ⟨o, ho⟩ := j.at; rw [e, hp] at ho; cases ho
  refine ⟨Ex.new np, fun a u _ h => ?_, ⟨fun a u h => ?_, by rw [upd_ne nb]; exact j.no, ?_, j.next (Ex.new np) (fun a u _ h => by rw [upd_ne (ne_of_none h hp)]; exact h) (fun a _ h => upd_ne fun e => by subst e; exact h.ne hp) (fun t _ ⟨ps, z⟩ => have n : t.1 ≠ p := ne_of_none z hp; ⟨upd_ne n, fun g => by rw [upd_ne n]; exact g⟩) (tbUpd ho)⟩, fun a h => ?_⟩
  · rw [upd_ne (ne_of_none h hp)]; exact h
  · by_cases e : a = p
    · subst e; rw [upd_same] at h ⊢; exact h
    · rw [upd_ne e] at h ⊢; exact j.ex a u h
  · obtain ⟨a, b, c, ns, h1, h2, h3⟩ := j.bag
    exact ⟨a, b, c, ns, by rw [upd_ne nb]; exact h1, ex_l (Ex.new np) h2, h3⟩
  · exact upd_ne fun e => by subst e; exact h.ne hp
/-- a new object, not known -/
theorem Gr.new0 {p : Addr} {o : HO} (j : Jn K B G H) (hp : H p = none) (ho : noTb o = true := by rfl) : Gr K B G H G (upd H p o) := by
  have np : G p = none := fresh_back j.ex hp
  have nb : B.b ≠ p := fun e => by obtain ⟨o, ho⟩ := j.at; rw [e, hp] at ho; cases ho
  refine ⟨Ex.refl G, fun a u _ h => ?_, ⟨fun a u h => ?_, j.no, ?_, j.next (Ex.refl G) (fun a u _ h => by rw [upd_ne (ne_of_none h hp)]; exact h) (fun a _ h => rfl) (fun t _ ⟨ps, z⟩ => have n : t.1 ≠ p := ne_of_none z hp; ⟨upd_ne n, fun g => g⟩) (tbUpd ho)⟩, fun a h => rfl⟩
  · rw [upd_ne (ne_of_none h hp)]; exact h
  · rw [upd_ne (ne_of_none h np)]; exact j.ex a u h
  · obtain ⟨a, b, c, ns, h1, h2, h3⟩ := j.bag
    exact ⟨a, b, c, ns, by rw [upd_ne nb]; exact h1, h2, h3⟩
theorem notTup {a : Addr} {vs : List V} (h : Mu H a) (hp : H a = some (.tup vs)) : False := by
  obtain ⟨o, q, n⟩ := h
  rw [hp] at q
  cases q
  exact n (.inl ⟨_, rfl⟩)
/-- a tuple that stands there is known from now on -/
theorem Gr.learn {p : Addr} {vs : List V} (j : Jn K B G H) (hp : H p = some (.tup vs)) (gp : G p = none) : Gr K B G H (upd G p (.tup vs)) H := by
  have nb : B.b ≠ p := fun e => by
    obtain ⟨_, _, _, _, ho, _⟩ := j.bag
    rw [e, hp] at ho
    cases ho
  refine ⟨Ex.new gp, fun _ _ _ h => h, ⟨fun a u h => ?_, by rw [upd_ne nb]; exact j.no, ?_, j.next (Ex.new gp) (fun _ _ _ h => h) (fun a _ h => upd_ne fun e => by subst e; exact notTup h hp) (fun t _ ⟨ps, z⟩ => ⟨rfl, fun g => by rw [upd_ne fun e => by rw [e, hp] at z; cases z]; exact g⟩) (fun _ _ h => ⟨_, h⟩)⟩, fun a h => upd_ne fun e => ?_⟩
  · by_cases e : a = p
    · subst e; rw [upd_same] at h; cases h; exact hp
    · rw [upd_ne e] at h; exact j.ex a u h
  · obtain ⟨a, b, c, ns, h1, h2, h3⟩ := j.bag
    exact ⟨a, b, c, ns, h1, ex_l (Ex.new gp) h2, h3⟩
  · subst e
    exact notTup h hp
/-- an object of one's own changes -/
theorem Gr.own {p : Addr} {o : HO} (x : Gr K B G H G2 H2) (hp : H p = none) (gp : G2 p = none) (nb : B.nb p) (ho : noTb o = true := by rfl) : Gr K B G H G2 (upd H2 p o) := by
  refine ⟨x.ex, fun a u n h => ?_, ⟨fun a u h => ?_, x.j.no, ?_, x.j.next (Ex.refl _) (fun a u n h => by rw [upd_ne fun e => n (by rw [e]; exact nb)]; exact h) (fun a _ _ => rfl) (fun t h _ => ⟨upd_ne (nb.tab t h), fun g => g⟩) (tbUpd ho)⟩, x.old⟩
  · rw [upd_ne (ne_of_none h hp)]; exact x.kp a u n h
  · rw [upd_ne (ne_of_none h gp)]; exact x.j.ex a u h
  · obtain ⟨a, b, c, ns, h1, h2, h3⟩ := x.j.bag
    exact ⟨a, b, c, ns, by rw [upd_ne (Ne.symm nb.1.1)]; exact h1, h2, h3⟩
/-- an object of one's own becomes known -/
theorem Gr.frz {p : Addr} {o : HO} (x : Gr K B G H G2 H2) (hp : H p = none) (gp : G2 p = none) (nb : B.nb p) (h2 : H2 p = some o) : Gr K B G H (upd G2 p o) H2 := by
  refine ⟨x.ex.trans (Ex.new gp), x.kp, ⟨fun a u h => ?_, by rw [upd_ne (Ne.symm nb.1.1)]; exact x.j.no, ?_, x.j.next (Ex.new gp) (fun _ _ _ h => h) (fun a n _ => upd_ne fun e => n (by rw [e]; exact nb)) (fun t h _ => ⟨rfl, fun g => by rw [upd_ne (nb.tab t h)]; exact g⟩) (fun _ _ h => ⟨_, h⟩)⟩, fun a h => ?_⟩
  · by_cases e : a = p
    · subst e; rw [upd_same] at h; cases h; exact h2
    · rw [upd_ne e] at h; exact x.j.ex a u h
  · obtain ⟨a, b, c, ns, h1, h3, h4⟩ := x.j.bag
    exact ⟨a, b, c, ns, h1, ex_l (Ex.new gp) h3, h4⟩
  · rw [upd_ne fun e => by subst e; exact h.ne hp]
    exact x.old a h
end
section
variable {K : PySem.W.Frag} {B : Bx} {G H G1 L G2 H2 U : Hp} {F : List Addr}
open Classical in
/-- G, and what is known of code objects -/
noncomputable def codG (G G2 : Hp) : Hp := fun a => if ∃ q, G2 a = some (LamX.CodeO a q) then G2 a else G a
/-- behind a lending: the places F stand as they stood -/
theorem Gr.back (j : Jn K B G H) (g : Gr K B G1 L G2 H2) (ex1 : Ex G G1) (lo : ∀ a, a ∉ F → L a = H a) (nf : ∀ p ∈ F, ∃ o, H2 p = some o ∧ ∀ q, o ≠ LamX.CodeO p q) (nbF : ∀ p ∈ F, B.nb p) (gF : ∀ p ∈ F, G p = none)
    (u1 : ∀ a, a ∈ F → U a = H a) (u2 : ∀ a, a ∉ F → U a = H2 a) : Gr K B G H (codG G G2) U := by
  have cd : ∀ a q, G2 a = some (LamX.CodeO a q) → U a = some (LamX.CodeO a q) := fun a q h => by
    have h2 := g.j.ex _ _ h
    have na : a ∉ F := fun z => by
      obtain ⟨o, e, n⟩ := nf a z
      rw [e] at h2
      exact n q (Option.some.inj h2)
    rw [u2 a na]
    exact h2
  have ex : Ex G (codG G G2) := fun a o h => by
    unfold codG
    split
    · exact g.ex _ _ (ex1 _ _ h)
    · exact h
  have old : ∀ a, Mu H a → codG G G2 a = G a := fun a h => by
    unfold codG
    split
    · rename_i hq
      obtain ⟨q, e⟩ := hq
      exfalso
      have h2 := g.j.ex _ _ e
      have na : a ∉ F := fun z => by
        obtain ⟨o, e, n⟩ := nf a z
        rw [e] at h2
        exact n q (Option.some.inj h2)
      obtain ⟨o, z1, z2⟩ := h
      obtain ⟨o', z3, z4⟩ := g.mu ⟨o, (lo a na).trans z1, z2⟩
      rw [h2] at z3
      cases z3
      exact z4 (.inr ⟨q, rfl⟩)
    · rfl
  have nbb : B.b ∉ F := fun z => (nbF _ z).1.1 rfl
  refine ⟨ex, fun a o n h => ?_, ⟨fun a o h => ?_, ?_, ?_, ?_⟩, old⟩
  · by_cases ha : a ∈ F
    · rw [u1 a ha]; exact h
    · rw [u2 a ha]; exact g.kp a o n ((lo a ha).trans h)
  · unfold codG at h
    split at h
    · rename_i hq
      obtain ⟨q, e⟩ := hq
      rw [e] at h
      cases h
      exact cd a q e
    · have na : a ∉ F := fun z => by rw [gF a z] at h; cases h
      rw [u2 a na]
      exact g.j.ex _ _ (g.ex _ _ (ex1 _ _ h))
  · unfold codG
    split
    · rename_i hq
      obtain ⟨q, e⟩ := hq
      rw [g.j.no] at e
      cases e
    · exact j.no
  · obtain ⟨_, _, _, ns, _, h2, _, _, _, _, h7, h8⟩ := j.bag
    obtain ⟨a, b, c, _, h1, _, h3, h4, h5, h6, _, _⟩ := g.j.bag
    exact ⟨a, b, c, ns, by rw [u2 _ nbb]; exact h1, ex_l ex h2, h3, h4, h5, h6, h7, h8⟩
  · refine ⟨fun t h => ?_, fun u h => (j.xt.ex u h).trans ex, fun u h a o s e => ?_, fun u h a m => ?_⟩
    · obtain ⟨⟨ps, z1, z2, z3⟩, z4⟩ := g.j.xt.tb t h
      obtain ⟨_, z5⟩ := j.xt.tb t h
      have nt : t.1 ∉ F := fun z => (nbF _ z).tab t h rfl
      refine ⟨⟨ps, by rw [u2 _ nt]; exact z1, z2, fun pos cv z => ?_⟩, ?_⟩
      · obtain ⟨c, y1, y2⟩ := z3 pos cv z
        refine ⟨c, y1, ?_⟩
        unfold codG
        rw [if_pos ⟨_, y2⟩]
        exact y2
      · unfold codG
        split
        · rename_i hq
          obtain ⟨q, e⟩ := hq
          rw [z4] at e
          cases e
        · exact z5
    · have na : a ∉ F := fun z => by rw [(nbF a z).2 u h] at e; cases e
      rw [u2 a na]
      exact g.j.xt.keep u h a o s e
    · rw [old a (j.mu u h a m)]
      exact j.xt.old u h a m
theorem codG_none {a : Addr} (h : G a = none) (h2 : ∀ q, G2 a ≠ some (LamX.CodeO a q)) : codG G G2 a = none := by
  unfold codG
  rw [if_neg fun ⟨q, e⟩ => h2 q e]
  exact h
theorem ncod {a : Addr} {o : HO} (h : ¬ Lrn a o) : ∀ q, o ≠ LamX.CodeO a q := fun q e => h (.inr ⟨q, e⟩)
end
inductive OD where
  | sh (d : D) | lst (xs : List OD) | dic (t : Bool) (ks : List (D × OD))
mutual
inductive Own (K : PySem.W.Frag) (B : Bx) (G H : Hp) : V → OD → List Addr → Prop
  | sh {v : V} {d : D} : Dat K B G v d → Own K B G H v (.sh d) []
  | lst {p : Addr} {vs : List V} {xs : List OD} {f : List Addr} : H p = some (.lst vs) → G p = none → Owns K B G H vs xs f → Own K B G H (.ref p) (.lst xs) (p :: f)
  | dK {p : Addr} {kvs : List (Key × V)} {ks : List (D × OD)} {f : List Addr} : H p = some (.dK kvs) → G p = none → OwnK K B G H kvs ks f → Own K B G H (.ref p) (.dic false ks) (p :: f)
  | dT {p : Addr} {kvs : List (List Key × V)} {ks : List (D × OD)} {f : List Addr} : H p = some (.dT kvs) → G p = none → OwnT K B G H kvs ks f → Own K B G H (.ref p) (.dic true ks) (p :: f)
inductive Owns (K : PySem.W.Frag) (B : Bx) (G H : Hp) : List V → List OD → List Addr → Prop
  | nil : Owns K B G H [] [] []
  | cons {v : V} {o : OD} {f : List Addr} {vs : List V} {os : List OD} {g : List Addr} : Own K B G H v o f → Owns K B G H vs os g → Owns K B G H (v :: vs) (o :: os) (f ++ g)
inductive OwnK (K : PySem.W.Frag) (B : Bx) (G H : Hp) : List (Key × V) → List (D × OD) → List Addr → Prop
  | nil : OwnK K B G H [] [] []
  | consI {i : Int} {v : V} {o : OD} {f : List Addr} {vs : List (Key × V)} {os : List (D × OD)} {g : List Addr} : Own K B G H v o f → OwnK K B G H vs os g → OwnK K B G H ((.inl i, v) :: vs) ((.int i, o) :: os) (f ++ g)
  | consS {x : Str} {v : V} {o : OD} {f : List Addr} {vs : List (Key × V)} {os : List (D × OD)} {g : List Addr} : Own K B G H v o f → OwnK K B G H vs os g → OwnK K B G H ((.inr x, v) :: vs) ((.str x, o) :: os) (f ++ g)
inductive OwnT (K : PySem.W.Frag) (B : Bx) (G H : Hp) : List (List Key × V) → List (D × OD) → List Addr → Prop
  | nil : OwnT K B G H [] [] []
  | cons {k : List Key} {v : V} {o : OD} {f : List Addr} {vs : List (List Key × V)} {os : List (D × OD)} {g : List Addr} : Own K B G H v o f → OwnT K B G H vs os g → OwnT K B G H ((k, v) :: vs) ((embT k, o) :: os) (f ++ g)
end
section
variable {K : PySem.W.Frag} {B : Bx} {G H G2 H2 : Hp}
/-- the places of f stand as they stood -/
def Kept (G H G2 H2 : Hp) (f : List Addr) : Prop := ∀ p ∈ f, H2 p = H p ∧ G2 p = G p
theorem Kept.l {f g : List Addr} (h : Kept G H G2 H2 (f ++ g)) : Kept G H G2 H2 f := fun p hp => h p (List.mem_append_left _ hp)
theorem Kept.r {f g : List Addr} (h : Kept G H G2 H2 (f ++ g)) : Kept G H G2 H2 g := fun p hp => h p (List.mem_append_right _ hp)
theorem Kept.h {p : Addr} {f : List Addr} (h : Kept G H G2 H2 (p :: f)) : H2 p = H p ∧ G2 p = G p := h p List.mem_cons_self
theorem Kept.t {p : Addr} {f : List Addr} (h : Kept G H G2 H2 (p :: f)) : Kept G H G2 H2 f := fun q hq => h q (List.mem_cons_of_mem _ hq)
mutual
theorem Own.keep (e : Ex G G2) : ∀ {v : V} {o : OD} {f : List Addr}, Own K B G H v o f → Kept G H G2 H2 f → Own K B G2 H2 v o f
  | _, _, _, .sh h, _ => .sh (h.mono e)
  | _, _, _, .lst h g t, k => .lst (k.h.1.trans h) (k.h.2.trans g) (Owns.keep e t k.t)
  | _, _, _, .dK h g t, k => .dK (k.h.1.trans h) (k.h.2.trans g) (OwnK.keep e t k.t)
  | _, _, _, .dT h g t, k => .dT (k.h.1.trans h) (k.h.2.trans g) (OwnT.keep e t k.t)
theorem Owns.keep (e : Ex G G2) : ∀ {v : List V} {o : List OD} {f : List Addr}, Owns K B G H v o f → Kept G H G2 H2 f → Owns K B G2 H2 v o f
  | _, _, _, .nil, _ => .nil
  | _, _, _, .cons h t, k => .cons (Own.keep e h k.l) (Owns.keep e t k.r)
theorem OwnK.keep (e : Ex G G2) : ∀ {v : List (Key × V)} {o : List (D × OD)} {f : List Addr}, OwnK K B G H v o f → Kept G H G2 H2 f → OwnK K B G2 H2 v o f
  | _, _, _, .nil, _ => .nil
  | _, _, _, .consI h t, k => .consI (Own.keep e h k.l) (OwnK.keep e t k.r)
  | _, _, _, .consS h t, k => .consS (Own.keep e h k.l) (OwnK.keep e t k.r)
theorem OwnT.keep (e : Ex G G2) : ∀ {v : List (List Key × V)} {o : List (D × OD)} {f : List Addr}, OwnT K B G H v o f → Kept G H G2 H2 f → OwnT K B G2 H2 v o f
  | _, _, _, .nil, _ => .nil
  | _, _, _, .cons h t, k => .cons (Own.keep e h k.l) (OwnT.keep e t k.r)
end
/-- an own place: a list or a dict stands there, and nobody knows it -/
def Node (G H : Hp) (p : Addr) : Prop := G p = none ∧ ((∃ vs, H p = some (.lst vs)) ∨ (∃ vs, H p = some (.dK vs)) ∨ ∃ vs, H p = some (.dT vs))
theorem Node.at {p : Addr} (n : Node G H p) : Mu H p := by
  rcases n.2 with ⟨_, h⟩ | ⟨_, h⟩ | ⟨_, h⟩ <;> exact ⟨_, h, nl rfl⟩
mutual
theorem Own.node : ∀ {v : V} {o : OD} {f : List Addr}, Own K B G H v o f → ∀ p ∈ f, Node G H p
  | _, _, _, .sh _, p, hp => nomatch hp
  | _, _, _, .lst h g t, p, hp => (List.mem_cons.mp hp).elim (fun e => by subst e; exact ⟨g, .inl ⟨_, h⟩⟩) (Owns.node t p)
  | _, _, _, .dK h g t, p, hp => (List.mem_cons.mp hp).elim (fun e => by subst e; exact ⟨g, .inr (.inl ⟨_, h⟩)⟩) (OwnK.node t p)
  | _, _, _, .dT h g t, p, hp => (List.mem_cons.mp hp).elim (fun e => by subst e; exact ⟨g, .inr (.inr ⟨_, h⟩)⟩) (OwnT.node t p)
theorem Owns.node : ∀ {v : List V} {o : List OD} {f : List Addr}, Owns K B G H v o f → ∀ p ∈ f, Node G H p
  | _, _, _, .nil, p, hp => nomatch hp
  | _, _, _, .cons h t, p, hp => (List.mem_append.mp hp).elim (Own.node h p) (Owns.node t p)
theorem OwnK.node : ∀ {v : List (Key × V)} {o : List (D × OD)} {f : List Addr}, OwnK K B G H v o f → ∀ p ∈ f, Node G H p
  | _, _, _, .nil, p, hp => nomatch hp
  | _, _, _, .consI h t, p, hp => (List.mem_append.mp hp).elim (Own.node h p) (OwnK.node t p)
  | _, _, _, .consS h t, p, hp => (List.mem_append.mp hp).elim (Own.node h p) (OwnK.node t p)
theorem OwnT.node : ∀ {v : List (List Key × V)} {o : List (D × OD)} {f : List Addr}, OwnT K B G H v o f → ∀ p ∈ f, Node G H p
  | _, _, _, .nil, p, hp => nomatch hp
  | _, _, _, .cons h t, p, hp => (List.mem_append.mp hp).elim (Own.node h p) (OwnT.node t p)
end
mutual
def OD.toD : OD → D
  | .sh d => d
  | .lst xs => .lst (toDs xs)
  | .dic _ ks => .dic (toDk ks)
def toDs : List OD → List D
  | [] => []
  | x :: xs => x.toD :: toDs xs
def toDk : List (D × OD) → List (D × D)
  | [] => []
  | (k, x) :: xs => (k, x.toD) :: toDk xs
end
def frzG (G H : Hp) (f : List Addr) : Hp := fun a => if a ∈ f then H a else G a
theorem frz_ex {f : List Addr} (h : ∀ p ∈ f, G p = none) : Ex G (frzG G H f) := fun a o e => by
  unfold frzG
  rw [if_neg fun z => by rw [h a z] at e; cases e]
  exact e
theorem frz_in {f : List Addr} {p : Addr} (h : p ∈ f) : frzG G H f p = H p := if_pos h
/-- the dicts at these places are locked -/
structure Lkd (H L : Hp) (f : List Addr) : Prop where
  out : ∀ p, p ∉ f → L p = H p
  lst : ∀ p vs, H p = some (.lst vs) → L p = some (.lst vs)
  dK : ∀ p vs, p ∈ f → H p = some (.dK vs) → ∃ od, L p = some (.frz od (.dK vs))
  dT : ∀ p vs, p ∈ f → H p = some (.dT vs) → ∃ od, L p = some (.frz od (.dT vs))
  tb : ∀ p ps, L p = some (.tbl ps) → H p = some (.tbl ps)
mutual
theorem Own.dat {L : Hp} {F : List Addr} (hF : ∀ p ∈ F, G p = none) (hL : Lkd H L F) : ∀ {v : V} {o : OD} {f : List Addr}, Own K B G H v o f → (∀ p ∈ f, p ∈ F) → Dat K B (frzG G L F) v o.toD
  | _, _, _, .sh h, _ => h.mono (frz_ex hF)
  | _, _, _, .lst h g t, k => .lst ((frz_in (k _ List.mem_cons_self)).trans (hL.lst _ _ h)) (Owns.dat hF hL t fun p hp => k p (List.mem_cons_of_mem _ hp))
  | _, _, _, .dK h g t, k => let ⟨_, e⟩ := hL.dK _ _ (k _ List.mem_cons_self) h; .dK ((frz_in (k _ List.mem_cons_self)).trans e) (OwnK.dat hF hL t fun p hp => k p (List.mem_cons_of_mem _ hp))
  | _, _, _, .dT h g t, k => let ⟨_, e⟩ := hL.dT _ _ (k _ List.mem_cons_self) h; .dT ((frz_in (k _ List.mem_cons_self)).trans e) (OwnT.dat hF hL t fun p hp => k p (List.mem_cons_of_mem _ hp))
theorem Owns.dat {L : Hp} {F : List Addr} (hF : ∀ p ∈ F, G p = none) (hL : Lkd H L F) : ∀ {v : List V} {o : List OD} {f : List Addr}, Owns K B G H v o f → (∀ p ∈ f, p ∈ F) → Dats K B (frzG G L F) v (toDs o)
  | _, _, _, .nil, _ => .nil
  | _, _, _, .cons h t, k => .cons (Own.dat hF hL h fun p hp => k p (List.mem_append_left _ hp)) (Owns.dat hF hL t fun p hp => k p (List.mem_append_right _ hp))
theorem OwnK.dat {L : Hp} {F : List Addr} (hF : ∀ p ∈ F, G p = none) (hL : Lkd H L F) : ∀ {v : List (Key × V)} {o : List (D × OD)} {f : List Addr}, OwnK K B G H v o f → (∀ p ∈ f, p ∈ F) → DatK K B (frzG G L F) v (toDk o)
  | _, _, _, .nil, _ => .nil
  | _, _, _, .consI h t, k => .consI (Own.dat hF hL h fun p hp => k p (List.mem_append_left _ hp)) (OwnK.dat hF hL t fun p hp => k p (List.mem_append_right _ hp))
  | _, _, _, .consS h t, k => .consS (Own.dat hF hL h fun p hp => k p (List.mem_append_left _ hp)) (OwnK.dat hF hL t fun p hp => k p (List.mem_append_right _ hp))
theorem OwnT.dat {L : Hp} {F : List Addr} (hF : ∀ p ∈ F, G p = none) (hL : Lkd H L F) : ∀ {v : List (List Key × V)} {o : List (D × OD)} {f : List Addr}, OwnT K B G H v o f → (∀ p ∈ f, p ∈ F) → DatT K B (frzG G L F) v (toDk o)
  | _, _, _, .nil, _ => .nil
  | _, _, _, .cons h t, k => .cons (Own.dat hF hL h fun p hp => k p (List.mem_append_left _ hp)) (OwnT.dat hF hL t fun p hp => k p (List.mem_append_right _ hp))
end
/-- a list of data, all shared -/
theorem Owns.of : ∀ {vs : List V} {ds : List D}, Dats K B G vs ds → Owns K B G H vs (ds.map .sh) []
  | _, _, .nil => .nil
  | _, _, .cons h t => .cons (.sh h) (Owns.of t)
theorem toDs_sh : ∀ ds : List D, toDs (ds.map .sh) = ds
  | [] => rfl
  | d :: ds => by rw [List.map_cons, toDs, toDs_sh ds]; rfl
end
inductive SD where
  | sh (d : D) | ow (v : V) (o : OD) | nw (x : Addr) (C : Nat) (fs : List (Option D))
def FldOk (K : PySem.W.Frag) (B : Bx) (G : Hp) (vs : List (Option V)) (fs : List (Option D)) : Prop :=
  vs.length = fs.length ∧ ∀ (i : Nat) (d : D), fs[i]? = some (some d) → ∃ v, vs[i]? = some (some v) ∧ Dat K B G v d
theorem FldOk.mono {K : PySem.W.Frag} {B : Bx} {G G2 : Hp} {vs : List (Option V)} {fs : List (Option D)} (h : FldOk K B G vs fs) (e : Ex G G2) : FldOk K B G2 vs fs :=
  ⟨h.1, fun i d q => let ⟨v, a, b⟩ := h.2 i d q; ⟨v, a, b.mono e⟩⟩
/-- an instance that is being made: its fields so far -/
structure NwAt (K : PySem.W.Frag) (B : Bx) (H0 G H : Hp) (x : Addr) (C : Nat) (dx : Addr) (vs : List (Option V)) (fs : List (Option D)) : Prop where
  sl : SlX.Slt H x (B.ct C) dx vs
  dc : H dx = some (.own x) ∨ H dx = some (.xd [])
  ne : dx ≠ x
  gx : G x = none
  gd : G dx = none
  hx : H0 x = none
  hd : H0 dx = none
  bx : B.nb x
  bd : B.nb dx
  fl : FldOk K B G vs fs
theorem slO_mu {H : Hp} {x C dx : Addr} {vs : List (Option V)} (h : H x = some (SlX.SlO x C dx vs)) : Mu H x := ⟨_, h, nlx fun hp o z g => by
  obtain ⟨sl, e, _⟩ := z
  rw [e] at g
  cases g
  simp⟩
theorem slt_keep {H H2 : Hp} {x C dx : Addr} {vs : List (Option V)} (h : SlX.Slt H x C dx vs) (k1 : ∀ o, H x = some o → H2 x = some o) (k2 : ∀ o, H dx = some o → H2 dx = some o) : SlX.Slt H2 x C dx vs := by
  rcases h with ⟨a, b⟩ | ⟨a, b⟩
  · exact .inl ⟨k1 _ a, b⟩
  · exact .inr ⟨k1 _ a, k2 _ b⟩
theorem NwAt.keep {K : PySem.W.Frag} {B : Bx} {H0 G H G2 H2 : Hp} {x dx : Addr} {C : Nat} {vs : List (Option V)} {fs : List (Option D)} (n : NwAt K B H0 G H x C dx vs fs) (e : Ex G G2) (k : Kept G H G2 H2 [x, dx]) : NwAt K B H0 G2 H2 x C dx vs fs := by
  have k1 := k x (by simp)
  have k2 := k dx (by simp)
  exact ⟨slt_keep n.sl (fun o z => k1.1.trans z) (fun o z => k2.1.trans z), n.dc.imp (fun z => k2.1.trans z) (fun z => k2.1.trans z), n.ne, k1.2.trans n.gx, k2.2.trans n.gd, n.hx, n.hd, n.bx, n.bd, n.fl.mono e⟩
abbrev DS := List (Option SD)
/-- what stands in a slot, and the places that are its own -/
inductive SlotOk (K : PySem.W.Frag) (B : Bx) (H0 G H : Hp) : Option V → Option SD → List Addr → Prop
  | no {ov : Option V} : SlotOk K B H0 G H ov none []
  | sh {v : V} {d : D} : Dat K B G v d → SlotOk K B H0 G H (some v) (some (.sh d)) []
  | ow {v : V} {o : OD} {f : List Addr} : Own K B G H v o f → f.Nodup → (∀ p ∈ f, H0 p = none ∧ B.nb p) → SlotOk K B H0 G H (some v) (some (.ow v o)) f
  | nw {x dx : Addr} {C : Nat} {vs : List (Option V)} {fs : List (Option D)} : NwAt K B H0 G H x C dx vs fs → SlotOk K B H0 G H (some (.ref x)) (some (.nw x C fs)) [x, dx]
section
variable {K : PySem.W.Frag} {B : Bx} {H0 G H G2 H2 : Hp} {σ : L2.St} {δ : DS} {ov : Option V} {od : Option SD} {f : List Addr}
theorem SlotOk.keep (s : SlotOk K B H0 G H ov od f) (e : Ex G G2) (k : Kept G H G2 H2 f) : SlotOk K B H0 G2 H2 ov od f := by
  cases s with
  | no => exact .no
  | sh h => exact .sh (h.mono e)
  | ow h n q => exact .ow (h.keep e k) n q
  | nw n => exact .nw (n.keep e k)
theorem SlotOk.at (s : SlotOk K B H0 G H ov od f) : ∀ p ∈ f, Mu H p ∧ B.nb p ∧ G p = none ∧ H0 p = none := by
  cases s with
  | no => exact fun p hp => nomatch hp
  | sh h => exact fun p hp => nomatch hp
  | ow h n q => exact fun p hp => ⟨(h.node p hp).at, (q p hp).2, (h.node p hp).1, (q p hp).1⟩
  | @nw x dx C vs fs n =>
    intro p hp
    rcases (show p = x ∨ p = dx by simpa using hp) with rfl | rfl
    · exact ⟨by
        rcases n.sl with ⟨q, _⟩ | ⟨q, _⟩
        · exact ⟨_, q, nl rfl⟩
        · exact slO_mu q, n.bx, n.gx, n.hx⟩
    · exact ⟨by rcases n.dc with q | q <;> exact ⟨_, q, nl rfl⟩, n.bd, n.gd, n.hd⟩
/-- all slots, by their own places -/
structure StF (K : PySem.W.Frag) (B : Bx) (H0 G H : Hp) (σ : L2.St) (δ : DS) (F : Nat → List Addr) : Prop where
  len : σ.length = δ.length
  at_ : ∀ (i : Nat) (ov : Option V) (od : Option SD), σ[i]? = some ov → δ[i]? = some od → SlotOk K B H0 G H ov od (F i)
  dj : ∀ (i j : Nat), i < σ.length → j < σ.length → i ≠ j → ∀ p ∈ F i, p ∉ F j
structure StOk (K : PySem.W.Frag) (B : Bx) (H0 G H : Hp) (σ : L2.St) (δ : DS) : Prop where
  ex : ∃ F, StF K B H0 G H σ δ F
theorem StOk.len (x : StOk K B H0 G H σ δ) : σ.length = δ.length := let ⟨_, h⟩ := x.ex; h.len
theorem StF.get {F : Nat → List Addr} (x : StF K B H0 G H σ δ F) {i : Nat} {od : Option SD} (h : δ[i]? = some od) : ∃ ov, σ[i]? = some ov ∧ SlotOk K B H0 G H ov od (F i) := by
  have hl : i < σ.length := by rw [x.len]; exact (List.getElem?_eq_some_iff.mp h).1
  exact ⟨σ[i], List.getElem?_eq_getElem hl, x.at_ i _ od (List.getElem?_eq_getElem hl) h⟩
theorem StOk.sh (x : StOk K B H0 G H σ δ) (i : Nat) (d : D) (h : δ[i]? = some (some (.sh d))) : ∃ v, σ[i]? = some (some v) ∧ Dat K B G v d := by
  obtain ⟨F, y⟩ := x.ex
  obtain ⟨ov, h1, s⟩ := y.get h
  generalize F i = f at s
  cases s with
  | sh q => exact ⟨_, h1, q⟩
theorem StOk.nw (x : StOk K B H0 G H σ δ) (i : Nat) (a : Addr) (C : Nat) (fs : List (Option D)) (h : δ[i]? = some (some (.nw a C fs))) : ∃ dx vs, σ[i]? = some (some (.ref a)) ∧ NwAt K B H0 G H a C dx vs fs := by
  obtain ⟨F, y⟩ := x.ex
  obtain ⟨ov, h1, s⟩ := y.get h
  generalize F i = f at s
  cases s with
  | nw n => exact ⟨_, _, h1, n⟩
theorem StF.ow {F : Nat → List Addr} (x : StF K B H0 G H σ δ F) {i : Nat} {v : V} {o : OD} (h : δ[i]? = some (some (.ow v o))) : σ[i]? = some (some v) ∧ Own K B G H v o (F i) ∧ (F i).Nodup ∧ ∀ p ∈ F i, H0 p = none ∧ B.nb p := by
  obtain ⟨ov, h1, s⟩ := x.get h
  generalize F i = f at s ⊢
  cases s with
  | ow a b c => exact ⟨h1, a, b, c⟩
/-- one slot changes, and what is its own -/
theorem StF.put {F : Nat → List Addr} {i : Nat} {fi : List Addr} (x : StF K B H0 G H σ δ F) (hi : i < σ.length) (e : Ex G G2) (hk : ∀ p, Mu H p → B.nb p → p ∉ F i → H2 p = H p ∧ G2 p = G p) (s : SlotOk K B H0 G2 H2 ov od fi) (hf : ∀ p ∈ fi, H p = none ∨ p ∈ F i) :
    StF K B H0 G2 H2 (σ.set i ov) (δ.set i od) (fun j => if j = i then fi else F j) where
  len := by rw [List.length_set, List.length_set]; exact x.len
  at_ := fun j uv ud h1 h2 => by
    by_cases hj : i = j
    · subst hj
      have hl : i < σ.length := by have := (List.getElem?_eq_some_iff.mp h1).1; rwa [List.length_set] at this
      rw [List.getElem?_set_self hl] at h1
      rw [List.getElem?_set_self (by rw [← x.len]; exact hl)] at h2
      cases h1
      cases h2
      rw [if_pos rfl]
      exact s
    · rw [List.getElem?_set_ne hj] at h1 h2
      rw [if_neg (Ne.symm hj)]
      have q := x.at_ j uv ud h1 h2
      have hlj : j < σ.length := (List.getElem?_eq_some_iff.mp h1).1
      refine q.keep e fun p hp => ?_
      have a := q.at p hp
      exact hk p a.1 a.2.1 (x.dj j i hlj hi (Ne.symm hj) p hp)
  dj := fun a b ha hb hab p hp hq => by
    rw [List.length_set] at ha hb
    by_cases h1 : a = i
    · rw [if_pos h1] at hp
      have h2 : b ≠ i := fun z => hab (h1.trans z.symm)
      rw [if_neg h2] at hq
      obtain ⟨ud, hud⟩ : ∃ ud, δ[b]? = some ud := ⟨δ[b]'(by rw [← x.len]; exact hb), List.getElem?_eq_getElem _⟩
      obtain ⟨uv, huv, q⟩ := x.get hud
      rcases hf p hp with z | z
      · exact (q.at p hq).1.ne z
      · exact x.dj i b (h1 ▸ ha) hb (Ne.symm h2) p z hq
    · rw [if_neg h1] at hp
      by_cases h2 : b = i
      · rw [if_pos h2] at hq
        obtain ⟨ud, hud⟩ : ∃ ud, δ[a]? = some ud := ⟨δ[a]'(by rw [← x.len]; exact ha), List.getElem?_eq_getElem _⟩
        obtain ⟨uv, huv, q⟩ := x.get hud
        rcases hf p hq with z | z
        · exact (q.at p hp).1.ne z
        · exact x.dj a i ha (h2 ▸ hb) h1 p hp z
      · rw [if_neg h2] at hq
        exact x.dj a b ha hb hab p hp hq
end
section
variable {K : PySem.W.Frag} {B : Bx} {H0 G H G2 H2 : Hp} {σ : L2.St} {δ : DS}
theorem StF.gr {F : Nat → List Addr} (x : StF K B H0 G H σ δ F) (g : Gr K B G H G2 H2) : StF K B H0 G2 H2 σ δ F where
  len := x.len
  dj := x.dj
  at_ := fun i ov od h1 h2 => (x.at_ i ov od h1 h2).keep g.ex fun p hp => by
    have a := (x.at_ i ov od h1 h2).at p hp
    refine ⟨?_, g.old p a.1⟩
    cases q : H p with
    | none => exact absurd q a.1.ne
    | some o => exact g.keep p o a.2.1 q
theorem StOk.gr (x : StOk K B H0 G H σ δ) (g : Gr K B G H G2 H2) : StOk K B H0 G2 H2 σ δ := let ⟨F, y⟩ := x.ex; ⟨F, y.gr g⟩
theorem set_out {α : Type} {l : List α} {i : Nat} {a : α} (h : ¬ i < l.length) : l.set i a = l := by
  apply List.ext_getElem?
  intro j
  by_cases hj : i = j
  · subst hj
    rw [List.getElem?_eq_none_iff.mpr (by rw [List.length_set]; omega), List.getElem?_eq_none_iff.mpr (by omega)]
  · rw [List.getElem?_set_ne hj]
theorem StOk.put0 {i : Nat} {ov : Option V} {od : Option SD} (x : StOk K B H0 G H σ δ) (s : SlotOk K B H0 G H ov od []) : StOk K B H0 G H (σ.set i ov) (δ.set i od) := by
  by_cases hi : i < σ.length
  · obtain ⟨F, y⟩ := x.ex
    exact ⟨_, y.put hi (Ex.refl G) (fun _ _ _ _ => ⟨rfl, rfl⟩) s fun p hp => nomatch hp⟩
  · rw [set_out hi, set_out (by rw [← x.len]; exact hi)]
    exact x
/-- a slot is filled with data -/
theorem StOk.set {i : Nat} {v : V} {d : D} (x : StOk K B H0 G H σ δ) (h : Dat K B G v d) : StOk K B H0 G H (σ.set i (some v)) (δ.set i (some (.sh d))) := x.put0 (.sh h)
/-- less is known of a slot -/
theorem StOk.forget {i : Nat} {o : Option V} (x : StOk K B H0 G H σ δ) : StOk K B H0 G H (σ.set i o) (δ.set i none) := x.put0 .no
/-- a slot is filled with what is new and one's own -/
theorem StOk.setO {i : Nat} {v : V} {o : OD} {f : List Addr} (x : StOk K B H0 G H σ δ) (g : Gr K B G H G2 H2) (h : Own K B G2 H2 v o f) (nd : f.Nodup) (hf : ∀ p ∈ f, H p = none ∧ H0 p = none ∧ B.nb p) : StOk K B H0 G2 H2 (σ.set i (some v)) (δ.set i (some (.ow v o))) := by
  by_cases hi : i < σ.length
  · obtain ⟨F, y⟩ := x.ex
    refine ⟨_, y.put hi g.ex (fun p h1 h2 _ => ⟨?_, g.old p h1⟩) (.ow h nd fun p hp => (hf p hp).2) fun p hp => .inl (hf p hp).1⟩
    cases q : H p with
    | none => exact absurd q h1.ne
    | some o => exact g.keep p o h2 q
  · rw [set_out hi, set_out (by rw [← x.len]; exact hi)]
    exact x.gr g
end
end DL
namespace DL
open PySem PySem.Spec PyProof.Rows L2 Evl
abbrev DE := DS → (D → Prop) → Prop
abbrev DA := DS → (List D → Prop) → Prop
abbrev DT := DS → (Bool → Prop) → Prop
structure DEnds where
  nx : DS → Prop
  rt : D → Prop
  bk : DS → Prop := fun _ => False
  ct : DS → Prop := fun _ => False
  ro : OD → Prop := fun _ => False
abbrev DTS := DEnds → DS → Prop
abbrev DG := D → DS → (DS → Prop) → Prop
abbrev DGs := List D → DS → (DS → Prop) → Prop
def liftE (K : PySem.W.Frag) (B : Bx) (r : DE) : TE := fun σ H P => ∃ (H0 G : Hp) (δ : DS) (Q : D → Prop), Jn K B G H ∧ StOk K B H0 G H σ δ ∧ r δ Q ∧ ∀ d v G2 H2, Q d → Gr K B G H G2 H2 → Dat K B G2 v d → P v H2
/-- a new list that nobody knows -/
def liftF (K : PySem.W.Frag) (B : Bx) (r : DA) : TE := fun σ H P => ∃ (H0 G : Hp) (δ : DS) (Q : List D → Prop), Jn K B G H ∧ StOk K B H0 G H σ δ ∧ r δ Q ∧ ∀ ds p vs G2 H2, Q ds → Gr K B G H G2 H2 → H p = none → G2 p = none → H2 p = some (.lst vs) → Dats K B G2 vs ds → P (.ref p) H2
def liftA (K : PySem.W.Frag) (B : Bx) (r : DA) : TA := fun σ H P => ∃ (H0 G : Hp) (δ : DS) (Q : List D → Prop), Jn K B G H ∧ StOk K B H0 G H σ δ ∧ r δ Q ∧ ∀ ds vs G2 H2, Q ds → Gr K B G H G2 H2 → Dats K B G2 vs ds → P vs H2
def liftT (K : PySem.W.Frag) (B : Bx) (r : DT) : TT := fun σ H P => ∃ (H0 G : Hp) (δ : DS) (Q : Bool → Prop), Jn K B G H ∧ StOk K B H0 G H σ δ ∧ r δ Q ∧ ∀ b G2 H2, Q b → Gr K B G H G2 H2 → P b H2
structure Endy (K : PySem.W.Frag) (B : Bx) (G0 H0 Gc : Hp) (W : DEnds) (E : Ends) : Prop where
  nx : ∀ σ δ G H, W.nx δ → Gr K B G0 H0 G H → Ex Gc G → StOk K B H0 G H σ δ → E.nx σ H
  bk : ∀ σ δ G H, W.bk δ → Gr K B G0 H0 G H → Ex Gc G → StOk K B H0 G H σ δ → E.bk σ H
  ct : ∀ σ δ G H, W.ct δ → Gr K B G0 H0 G H → Ex Gc G → StOk K B H0 G H σ δ → E.ct σ H
  rt : ∀ d v G H, W.rt d → Gr K B G0 H0 G H → Ex Gc G → Dat K B G v d → E.rt v H
  ro : ∀ o v f G H, W.ro o → Gr K B G0 H0 G H → Ex Gc G → Own K B G H v o f → f.Nodup → (∀ p ∈ f, H0 p = none ∧ B.nb p) → E.rt v H
theorem Endy.up {K : PySem.W.Frag} {B : Bx} {G0 H0 Gc Gd : Hp} {W : DEnds} {E : Ends} (k : Endy K B G0 H0 Gc W E) (e : Ex Gc Gd) : Endy K B G0 H0 Gd W E :=
  ⟨fun σ δ G H a b c d => k.nx σ δ G H a b (e.trans c) d, fun σ δ G H a b c d => k.bk σ δ G H a b (e.trans c) d, fun σ δ G H a b c d => k.ct σ δ G H a b (e.trans c) d, fun d v G H a b c h => k.rt d v G H a b (e.trans c) h, fun o v f G H a b c h => k.ro o v f G H a b (e.trans c) h⟩
def liftS (K : PySem.W.Frag) (B : Bx) (t : DTS) : TS := fun E σ H => ∃ (G0 H0 G : Hp) (δ : DS) (W : DEnds), Gr K B G0 H0 G H ∧ StOk K B H0 G H σ δ ∧ t W δ ∧ Endy K B G0 H0 G W E
/-- only these slots are stored -/
def Upd (is : List Nat) (σ σ' : L2.St) : Prop := σ'.length = σ.length ∧ ∀ j : Nat, j ∉ is → σ'[j]? = σ[j]?
theorem Upd.refl (is : List Nat) (σ : L2.St) : Upd is σ σ := ⟨rfl, fun _ _ => rfl⟩
theorem Upd.trans {is js : List Nat} {σ σ' σ2 : L2.St} (a : Upd is σ σ') (b : Upd js σ' σ2) : Upd (is ++ js) σ σ2 :=
  ⟨b.1.trans a.1, fun j hj => (b.2 j fun z => hj (List.mem_append_right _ z)).trans (a.2 j fun z => hj (List.mem_append_left _ z))⟩
theorem wipe_at (σ : L2.St) (j : Nat) : ∀ vs : List Nat, (wipe σ vs)[j]? = if j ∈ vs ∧ j < σ.length then some none else σ[j]?
  | [] => by simp [wipe]
  | v :: vs => by
    unfold wipe
    by_cases e : v = j
    · subst e
      by_cases hl : v < σ.length
      · rw [List.getElem?_set_self (by rw [wipe_length]; exact hl), if_pos ⟨by simp, hl⟩]
      · rw [List.getElem?_eq_none_iff.mpr (by rw [List.length_set, wipe_length]; omega), if_neg (fun z => hl z.2), List.getElem?_eq_none_iff.mpr (by omega)]
    · rw [List.getElem?_set_ne e, wipe_at σ j vs]
      have : (j ∈ v :: vs) ↔ (j ∈ vs) := by simp [Ne.symm e]
      simp only [this]
theorem Upd.wipe {is vs : List Nat} {σ σ' : L2.St} (a : Upd is σ σ') (h : ∀ i ∈ is, i ∈ vs) : L2.wipe σ' vs = L2.wipe σ vs := by
  apply List.ext_getElem?
  intro j
  rw [wipe_at, wipe_at, a.1]
  by_cases hj : j ∈ vs
  · by_cases hl : j < σ.length
    · rw [if_pos ⟨hj, hl⟩, if_pos ⟨hj, hl⟩]
    · rw [if_neg (fun z => hl z.2), if_neg (fun z => hl z.2), List.getElem?_eq_none_iff.mpr (by rw [a.1]; omega), List.getElem?_eq_none_iff.mpr (by omega)]
  · rw [if_neg (fun z => hj z.1), if_neg (fun z => hj z.1)]
    exact a.2 j fun z => hj (h j z)
theorem wipe_wipe (σ : L2.St) (vs : List Nat) : wipe (wipe σ vs) vs = wipe σ vs := by
  apply List.ext_getElem?
  intro j
  rw [wipe_at, wipe_at, wipe_length]
  by_cases h : j ∈ vs ∧ j < σ.length
  · simp [h]
  · simp [h]
def liftG (K : PySem.W.Frag) (B : Bx) (is : List Nat) (g : DG) : TG := fun v σ H R => ∃ (H0 G : Hp) (δ : DS) (d : D) (Q : DS → Prop), Jn K B G H ∧ StOk K B H0 G H σ δ ∧ Dat K B G v d ∧ g d δ Q ∧ ∀ σ' δ', Q δ' → StOk K B H0 G H σ' δ' → Upd is σ σ' → R σ' H
def liftGs (K : PySem.W.Frag) (B : Bx) (is : List Nat) (g : DGs) : TGs := fun vs σ H R => ∃ (H0 G : Hp) (δ : DS) (ds : List D) (Q : DS → Prop), Jn K B G H ∧ StOk K B H0 G H σ δ ∧ Dats K B G vs ds ∧ g ds δ Q ∧ ∀ σ' δ', Q δ' → StOk K B H0 G H σ' δ' → Upd is σ σ' → R σ' H
abbrev PD (X : Cx) (B : Bx) (e : Expr) (r : DE) : Prop := PE X e (liftE X.K B r)
abbrev PF (X : Cx) (B : Bx) (e : Expr) (r : DA) : Prop := PE X e (liftF X.K B r)
abbrev PAD (X : Cx) (B : Bx) (es : List Expr) (r : DA) : Prop := PA X es (liftA X.K B r)
abbrev PTD (X : Cx) (B : Bx) (e : Expr) (r : DT) : Prop := PT X e (liftT X.K B r)
abbrev PWD (X : Cx) (B : Bx) (e : Expr) (r : DT) : Prop := PW X e (liftT X.K B r)
abbrev PSD (X : Cx) (B : Bx) (st : Stmt) (t : DTS) : Prop := PS X st (liftS X.K B t)
abbrev PSsD (X : Cx) (B : Bx) (st : List Stmt) (t : DTS) : Prop := PSs X st (liftS X.K B t)
abbrev PGD (X : Cx) (B : Bx) (e : Expr) (is : List Nat) (g : DG) : Prop := PG X e (liftG X.K B is g)
abbrev PGsD (X : Cx) (B : Bx) (es : List Expr) (is : List Nat) (g : DGs) : Prop := PGs X es (liftGs X.K B is g)
theorem pe_mono {X : Cx} {e : Expr} {t t' : TE} (h : PE X e t) (m : ∀ σ H Q, t' σ H Q → t σ H Q) : PE X e t' := ⟨fun pins s σ H Q I hw => h.run pins s σ H Q I (m σ H Q hw)⟩
theorem pt_mono {X : Cx} {e : Expr} {t t' : TT} (h : PT X e t) (m : ∀ σ H Q, t' σ H Q → t σ H Q) : PT X e t' := ⟨fun pins s σ H Q I hw => h.run pins s σ H Q I (m σ H Q hw)⟩
theorem pw_mono {X : Cx} {e : Expr} {t t' : TT} (h : PW X e t) (m : ∀ σ H Q, t' σ H Q → t σ H Q) : PW X e t' := ⟨fun wh pins s σ H Q I hw => h.run wh pins s σ H Q I (m σ H Q hw)⟩
theorem pa_mono {X : Cx} {e : List Expr} {t t' : TA} (h : PA X e t) (m : ∀ σ H Q, t' σ H Q → t σ H Q) : PA X e t' := ⟨fun pos pins s σ H Q I hw => h.run pos pins s σ H Q I (m σ H Q hw)⟩
theorem ps_mono {X : Cx} {e : Stmt} {t t' : TS} (h : PS X e t) (m : ∀ E σ H, t' E σ H → t E σ H) : PS X e t' := ⟨fun pins s σ H E I hw => h.run pins s σ H E I (m E σ H hw)⟩
theorem pss_mono {X : Cx} {e : List Stmt} {t t' : TS} (h : PSs X e t) (m : ∀ E σ H, t' E σ H → t E σ H) : PSs X e t' := ⟨fun pins s σ H E I hw => h.run pins s σ H E I (m E σ H hw)⟩
theorem pg_mono {X : Cx} {e : Expr} {t t' : TG} (h : PG X e t) (m : ∀ v σ H R, t' v σ H R → t v σ H R) : PG X e t' := ⟨fun pins s σ H v u R I r hw => h.run pins s σ H v u R I r (m v σ H R hw)⟩
theorem pgs_mono {X : Cx} {e : List Expr} {t t' : TGs} (h : PGs X e t) (m : ∀ v σ H R, t' v σ H R → t v σ H R) : PGs X e t' := ⟨fun pins s σ H v u R I r hw => h.run pins s σ H v u R I r (m v σ H R hw)⟩
section
variable {X : Cx} {B : Bx} {a b e : Expr} {es : List Expr} {ra rb r : DE} {pos : Pos}
def dVar (i : Nat) : DE := fun δ Q => match δ[i]? with
  | some (some (.sh d)) => Q d
  | _ => False
def dC (d : D) : DE := fun _ Q => Q d
theorem pd_of_var {i : Nat} (h : PE X e (tVar i)) : PD X B e (dVar i) := pe_mono h fun σ H P q => by
  obtain ⟨H0, G, δ, Q, j, st, hr, k⟩ := q
  unfold dVar at hr
  cases h1 : δ[i]? with
  | none => rw [h1] at hr; exact hr.elim
  | some o =>
    cases o with
    | none => rw [h1] at hr; exact hr.elim
    | some x =>
      cases x with
      | ow xs => rw [h1] at hr; exact hr.elim
      | nw _ _ _ => rw [h1] at hr; exact hr.elim
      | sh d =>
        rw [h1] at hr
        obtain ⟨v, hv, hd⟩ := st.sh i d h1
        exact ⟨v, hv, k d v G H hr (Gr.refl j) hd⟩
theorem pd_var (i : Nat) {x : Str} (hN : X.N[i]? = some x := by rfl) (hv : Vis X.env.scope x := by first | exact Or.inl rfl | exact Or.inr (Or.inl rfl) | exact Or.inr (Or.inr rfl)) (hd : (x == ("__debug__" : Str)) = false := by decide)
    (hcd : (x == ("__classdict__" : Str)) = false := by decide) : PD X B (.Name x pos) (dVar i) := pd_of_var (pe_var hN hv hd hcd)
theorem pd_of_c {v : V} {d : D} (h : PE X e (tC v)) (hd : ∀ G, Dat X.K B G v d) : PD X B e (dC d) := pe_mono h fun σ H P q => by
  obtain ⟨H0, G, δ, Q, j, st, hr, k⟩ := q
  exact k d v G H hr (Gr.refl j) (hd G)
theorem pd_int {i : Int} {j : Nat} : PD X B (.Constant (.int i) j pos) (dC (.int i)) := pd_of_c pe_int fun _ => .int i
theorem pd_bl {b : Bool} {j : Nat} : PD X B (.Constant (.bool b) j pos) (dC (.bl b)) := pd_of_c pe_bl fun _ => .bl b
theorem pd_non {j : Nat} : PD X B (.Constant .none j pos) (dC .non) := pd_of_c pe_non fun _ => .non
theorem pd_str {x : Str} {j : Nat} : PD X B (.Constant (.str x) j pos) (dC (.str x)) := pd_of_c pe_str fun _ => .str x
theorem pd_glob {x : Str} {v : V} {u : Value} {d : D} (hg : Gl X x) (hm : X.mg x = some u) (r : RelV v u) (hd : ∀ G, Dat X.K B G v d) (hdb : (x == ("__debug__" : Str)) = false := by decide) : PD X B (.Name x pos) (dC d) := pd_of_c (pe_glob hg hm r hdb) hd
def dNil : DA := fun _ Q => Q []
def dCons (r : DE) (ra : DA) : DA := fun δ Q => r δ fun x => ra δ fun xs => Q (x :: xs)
theorem pad_nil : PAD X B [] dNil := pa_mono pa_nil fun σ H P q => by
  obtain ⟨H0, G, δ, Q, j, st, hr, k⟩ := q
  exact k [] [] G H hr (Gr.refl j) .nil
theorem pad_cons {ra : DA} (h : PD X B e r) (ha : PAD X B es ra) (hs : starEach (e :: es) X.env = (false, eval e X.env) :: starEach es X.env := by rfl) : PAD X B (e :: es) (dCons r ra) := pa_mono (pa_cons h ha hs) fun σ H P q => by
  obtain ⟨H0, G, δ, Q, j, st, hr, k⟩ := q
  refine ⟨H0, G, δ, _, j, st, hr, fun d v G2 H2 q2 g2 h2 => ?_⟩
  refine ⟨H0, G2, δ, _, g2.j, st.gr g2, q2, fun ds vs G3 H3 q3 g3 h3 => ?_⟩
  exact k _ _ G3 H3 q3 (g2.trans g3) (.cons (h2.mono g3.ex) h3)
def dTup (ra : DA) : DE := fun δ Q => ra δ fun ds => match decide (ds.length ≤ 1000) with
  | true => Q (.tup ds)
  | false => False
def fLst (ra : DA) : DA := fun δ Q => ra δ fun ds => match decide (ds.length ≤ 1000) with
  | true => Q ds
  | false => False
theorem sz1000 {n : Nat} (h : n ≤ 1000) : n ≤ sizeLine := Nat.le_trans h (by decide)
theorem pd_tup {ra : DA} {k : Nat} (h : PAD X B es ra) : PD X B (.Tuple es k pos) (dTup ra) := pe_mono (pe_tup h) fun σ H P q => by
  obtain ⟨H0, G, δ, Q, j, st, hr, k⟩ := q
  refine ⟨H0, G, δ, _, j, st, hr, fun ds vs G2 H2 q2 g2 h2 => ?_⟩
  cases hz : decide (ds.length ≤ 1000) with
  | false => rw [hz] at q2; exact q2.elim
  | true =>
    rw [hz] at q2
    refine ⟨sz1000 (by rw [h2.len]; exact of_decide_eq_true hz), fun p hp => ?_⟩
    have g3 := Gr.new (o := .tup vs) g2.j hp
    exact k _ _ _ _ q2 (g2.trans g3) (.tup upd_same (h2.mono g3.ex))
theorem pf_lst {ra : DA} (h : PAD X B es ra) : PF X B (.List es pos) (fLst ra) := pe_mono (pe_lst h) fun σ H P q => by
  obtain ⟨H0, G, δ, Q, j, st, hr, k⟩ := q
  refine ⟨H0, G, δ, _, j, st, hr, fun ds vs G2 H2 q2 g2 h2 => ?_⟩
  cases hz : decide (ds.length ≤ 1000) with
  | false => rw [hz] at q2; exact q2.elim
  | true =>
    rw [hz] at q2
    refine ⟨sz1000 (by rw [h2.len]; exact of_decide_eq_true hz), fun p hp => ?_⟩
    have g3 := Gr.new0 (o := .lst vs) g2.j hp
    have hp0 : H p = none := by
      cases q : H p with
      | none => rfl
      | some o => exact absurd hp (g2.stay q)
    exact k _ _ _ _ _ q2 (g2.trans g3) hp0 (fresh_back g2.j.ex hp) upd_same h2
/-- what was free behind was free ahead -/
theorem Gr.free {K : PySem.W.Frag} {G H G2 H2 : Hp} (g : Gr K B G H G2 H2) {p : Addr} (hp : H2 p = none) : H p = none := by
  cases q : H p with
  | none => rfl
  | some o => exact absurd hp (g.stay q)
/-- what is free is no moving thing and younger than the anchor -/
theorem Gr.neB {K : PySem.W.Frag} {G H : Hp} (j : Jn K B G H) {p : Addr} (hp : H p = none) : B.nb p := by
  have st : B.st p := by
    refine ⟨fun e => ?_, fun t h e => ?_⟩
    · subst e
      obtain ⟨o, ho⟩ := j.at
      rw [hp] at ho
      cases ho
    · subst e
      obtain ⟨⟨ps, z, _⟩, _⟩ := j.xt.tb t h
      rw [hp] at z
      cases z
  refine ⟨st, fun u hu => ?_⟩
  cases q : u.2 p with
  | none => rfl
  | some o =>
    have z := j.xt.keep u hu p o st q
    rw [hp] at z
    cases z
/-- a new list as data -/
def dF (ra : DA) : DE := fun δ Q => ra δ fun ds => Q (.lst ds)
theorem pd_f {ra : DA} (h : PF X B e ra) : PD X B e (dF ra) := pe_mono h fun σ H P q => by
  obtain ⟨H0, G, δ, Q, j, st, hr, k⟩ := q
  refine ⟨H0, G, δ, _, j, st, hr, fun ds p vs G2 H2 q2 g2 hp gp h2 hd => ?_⟩
  exact k _ _ _ _ q2 (g2.frz hp gp (Gr.neB j hp) h2) (.lst upd_same (hd.mono (Ex.new gp)))
abbrev O2 := D → D → (D → Prop) → Prop
abbrev O1 := D → (D → Prop) → Prop
def rLift (K : PySem.W.Frag) (B : Bx) (r : O2) : R2 := fun x y H P => ∃ (G : Hp) (dx dy : D) (Q : D → Prop), Jn K B G H ∧ Dat K B G x dx ∧ Dat K B G y dy ∧ r dx dy Q ∧ ∀ d v G2 H2, Q d → Gr K B G H G2 H2 → Dat K B G2 v d → P v H2
def rLift1 (K : PySem.W.Frag) (B : Bx) (r : O1) : V → Hp → VK → Prop := fun x H P => ∃ (G : Hp) (dx : D) (Q : D → Prop), Jn K B G H ∧ Dat K B G x dx ∧ r dx Q ∧ ∀ d v G2 H2, Q d → Gr K B G H G2 H2 → Dat K B G2 v d → P v H2
def dOp (o : O2) (ra rb : DE) : DE := fun δ Q => ra δ fun x => rb δ fun y => o x y Q
def dUn (o : O1) (ra : DE) : DE := fun δ Q => ra δ fun x => o x Q
theorem lift2 {K : PySem.W.Frag} {o : O2} {σ : L2.St} {H : Hp} {P : VK} (q : liftE K B (dOp o ra rb) σ H P) : tOp (rLift K B o) (liftE K B ra) (liftE K B rb) σ H P := by
  obtain ⟨H0, G, δ, Q, j, st, hr, k⟩ := q
  refine ⟨H0, G, δ, _, j, st, hr, fun d v G2 H2 q2 g2 h2 => ?_⟩
  refine ⟨H0, G2, δ, _, g2.j, st.gr g2, q2, fun e u G3 H3 q3 g3 h3 => ?_⟩
  exact ⟨G3, d, e, Q, g3.j, h2.mono g3.ex, h3, q3, fun d' v' G4 H4 q4 g4 h4 => k d' v' G4 H4 q4 ((g2.trans g3).trans g4) h4⟩
theorem pd_bin {op : Operator} {o : O2} (h : OpR X (binaryOp op) (rLift X.K B o)) (ha : PD X B a ra) (hb : PD X B b rb) : PD X B (.BinOp a op b pos) (dOp o ra rb) := pe_mono (pe_op h ha hb) fun _ _ _ q => lift2 q
theorem pd_cmp {op : CmpOp} {o : O2} (h : OpR X (compareOp op) (rLift X.K B o)) (ha : PD X B a ra) (hb : PD X B b rb) (hm : behindInMarks op b = false) : PD X B (.Compare a [op] [b] pos) (dOp o ra rb) := pe_mono (pe_cmpR h ha hb hm) fun _ _ _ q => lift2 q
theorem pd_ix {o : O2} (h : IxR X (rLift X.K B o)) (ha : PD X B a ra) (hb : PD X B b rb) (hs : PlainIx b := by intro _ _; rfl) : PD X B (.Subscript a b pos) (dOp o ra rb) := pe_mono (pe_ix h ha hb hs) fun _ _ _ q => lift2 q
theorem pd_un {op : UnaryOp} {o : O1} (h : UnR X (unaryOp op) (rLift1 X.K B o)) (ha : PD X B a ra) : PD X B (.UnaryOp op a pos) (dUn o ra) := pe_mono (pe_un h ha) fun σ H P q => by
  obtain ⟨H0, G, δ, Q, j, st, hr, k⟩ := q
  refine ⟨H0, G, δ, _, j, st, hr, fun d v G2 H2 q2 g2 h2 => ?_⟩
  exact ⟨G2, d, Q, g2.j, h2, q2, fun d' v' G4 H4 q4 g4 h4 => k d' v' G4 H4 q4 (g2.trans g4) h4⟩
def tBl (r : DE) : DT := fun δ Q => r δ fun x => match x with
  | .bl b => Q b
  | _ => False
def tAn (r u : DT) : DT := fun δ Q => r δ fun b => if b = true then u δ Q else Q false
def tOrr (r u : DT) : DT := fun δ Q => r δ fun b => if b = true then Q true else u δ Q
def tNt (r : DT) : DT := fun δ Q => r δ fun b => Q (!b)
theorem ptd_val (h : PD X B e r) (he : ∀ whole, isTrue e X.env whole = (do let v ← whole; standAt e.pos; holding [v] (truthy v)) := by intro _; rfl) : PTD X B e (tBl r) := pt_mono (pt_val h he) fun σ H P q => by
  obtain ⟨H0, G, δ, Q, j, st, hr, k⟩ := q
  refine ⟨H0, G, δ, _, j, st, hr, fun d v G2 H2 q2 g2 h2 => ?_⟩
  cases h2 with
  | bl b => exact ⟨b, rfl, k b G2 H2 q2 g2⟩
  | _ => exact q2.elim
theorem ptd_cmp {op : CmpOp} {o : O2} (h : OpR X (compareOp op) (rLift X.K B o)) (ha : PD X B a ra) (hb : PD X B b rb) (hm : behindInMarks op b = false) : PTD X B (.Compare a [op] [b] pos) (tBl (dOp o ra rb)) := pt_mono (pt_cmpR h ha hb hm) fun σ H P q => by
  obtain ⟨H0, G, δ, Q, j, st, hr, k⟩ := q
  refine lift2 ⟨H0, G, δ, _, j, st, hr, fun d v G2 H2 q2 g2 h2 => ?_⟩
  cases h2 with
  | bl b => exact ⟨b, rfl, k b G2 H2 q2 g2⟩
  | _ => exact q2.elim
theorem ptd_not {t : DT} (h : PTD X B a t) : PTD X B (.UnaryOp .Not a pos) (tNt t) := pt_mono (pt_not h) fun σ H P q => by
  obtain ⟨H0, G, δ, Q, j, st, hr, k⟩ := q
  exact ⟨H0, G, δ, _, j, st, hr, fun b G2 H2 q2 g2 => k _ G2 H2 q2 g2⟩
theorem pwd_and1 {t : DT} (h : PTD X B a t) : PWD X B (.BoolOp .And [a] pos) t := pw_and1 h
theorem pwd_or1 {t : DT} (h : PTD X B a t) : PWD X B (.BoolOp .Or [a] pos) t := pw_or1 h
theorem lift_an {K : PySem.W.Frag} {t u : DT} {σ : L2.St} {H : Hp} {P : Bool → Hp → Prop} (q : liftT K B (tAn t u) σ H P) : L2.tAnd (liftT K B t) (liftT K B u) σ H P := by
  obtain ⟨H0, G, δ, Q, j, st, hr, k⟩ := q
  refine ⟨H0, G, δ, _, j, st, hr, fun c G2 H2 q2 g2 => ?_⟩
  cases c with
  | true => exact ⟨H0, G2, δ, Q, g2.j, st.gr g2, q2, fun c G3 H3 q3 g3 => k c G3 H3 q3 (g2.trans g3)⟩
  | false => exact k false G2 H2 q2 g2
theorem lift_or {K : PySem.W.Frag} {t u : DT} {σ : L2.St} {H : Hp} {P : Bool → Hp → Prop} (q : liftT K B (tOrr t u) σ H P) : L2.tOr (liftT K B t) (liftT K B u) σ H P := by
  obtain ⟨H0, G, δ, Q, j, st, hr, k⟩ := q
  refine ⟨H0, G, δ, _, j, st, hr, fun c G2 H2 q2 g2 => ?_⟩
  cases c with
  | false => exact ⟨H0, G2, δ, Q, g2.j, st.gr g2, q2, fun c G3 H3 q3 g3 => k c G3 H3 q3 (g2.trans g3)⟩
  | true => exact k true G2 H2 q2 g2
theorem pwd_and {t u : DT} {rest : List Expr} (h : PTD X B a t) (hu : PWD X B (.BoolOp .And (b :: rest) pos) u) : PWD X B (.BoolOp .And (a :: b :: rest) pos) (tAn t u) := pw_mono (pw_and h hu) fun _ _ _ q => lift_an q
theorem pwd_or {t u : DT} {rest : List Expr} (h : PTD X B a t) (hu : PWD X B (.BoolOp .Or (b :: rest) pos) u) : PWD X B (.BoolOp .Or (a :: b :: rest) pos) (tOrr t u) := pw_mono (pw_or h hu) fun _ _ _ q => lift_or q
def dAn (ra rb : DE) : DE := fun δ Q => ra δ fun x => match x with
  | .bl c => if c = true then rb δ Q else Q (.bl false)
  | _ => False
def dOr (ra rb : DE) : DE := fun δ Q => ra δ fun x => match x with
  | .bl c => if c = true then Q (.bl true) else rb δ Q
  | _ => False
def dNt (ra : DE) : DE := fun δ Q => ra δ fun x => match x with
  | .bl c => Q (.bl (!c))
  | _ => False
theorem pd_1 {op} (h : PD X B a ra) : PD X B (.BoolOp op [a] pos) ra := pe_one h
theorem pd_and {rest : List Expr} (ha : PD X B a ra) (hb : PD X B (.BoolOp .And (b :: rest) pos) rb) : PD X B (.BoolOp .And (a :: b :: rest) pos) (dAn ra rb) := pe_mono (pe_and ha hb) fun σ H P q => by
  obtain ⟨H0, G, δ, Q, j, st, hr, k⟩ := q
  refine ⟨H0, G, δ, _, j, st, hr, fun d v G2 H2 q2 g2 h2 => ?_⟩
  cases h2 with
  | bl c =>
    refine ⟨c, rfl, ?_⟩
    cases c with
    | true => exact ⟨H0, G2, δ, Q, g2.j, st.gr g2, q2, fun d v G3 H3 q3 g3 h3 => k d v G3 H3 q3 (g2.trans g3) h3⟩
    | false => exact k _ _ G2 H2 q2 g2 (.bl false)
  | _ => exact q2.elim
theorem pd_or {rest : List Expr} (ha : PD X B a ra) (hb : PD X B (.BoolOp .Or (b :: rest) pos) rb) : PD X B (.BoolOp .Or (a :: b :: rest) pos) (dOr ra rb) := pe_mono (pe_or ha hb) fun σ H P q => by
  obtain ⟨H0, G, δ, Q, j, st, hr, k⟩ := q
  refine ⟨H0, G, δ, _, j, st, hr, fun d v G2 H2 q2 g2 h2 => ?_⟩
  cases h2 with
  | bl c =>
    refine ⟨c, rfl, ?_⟩
    cases c with
    | false => exact ⟨H0, G2, δ, Q, g2.j, st.gr g2, q2, fun d v G3 H3 q3 g3 h3 => k d v G3 H3 q3 (g2.trans g3) h3⟩
    | true => exact k _ _ G2 H2 q2 g2 (.bl true)
  | _ => exact q2.elim
theorem pd_not (ha : PD X B a ra) : PD X B (.UnaryOp .Not a pos) (dNt ra) := pe_mono (pe_not ha) fun σ H P q => by
  obtain ⟨H0, G, δ, Q, j, st, hr, k⟩ := q
  refine ⟨H0, G, δ, _, j, st, hr, fun d v G2 H2 q2 g2 h2 => ?_⟩
  cases h2 with
  | bl c => exact ⟨c, rfl, k _ _ G2 H2 q2 g2 (.bl _)⟩
  | _ => exact q2.elim
def dIfE (t : DT) (ra rb : DE) : DE := fun δ Q => t δ fun b => if b = true then ra δ Q else rb δ Q
theorem pd_ifE {c : Expr} {t : DT} (hc : PTD X B c t) (ha : PD X B a ra) (hb : PD X B b rb) : PD X B (.IfExp c a b pos) (dIfE t ra rb) := pe_mono (pe_ifExp hc ha hb) fun σ H P q => by
  obtain ⟨H0, G, δ, Q, j, st, hr, k⟩ := q
  refine ⟨H0, G, δ, _, j, st, hr, fun c G2 H2 q2 g2 => ?_⟩
  cases c with
  | true => exact ⟨H0, G2, δ, Q, g2.j, st.gr g2, q2, fun d v G3 H3 q3 g3 h3 => k d v G3 H3 q3 (g2.trans g3) h3⟩
  | false => exact ⟨H0, G2, δ, Q, g2.j, st.gr g2, q2, fun d v G3 H3 q3 g3 h3 => k d v G3 H3 q3 (g2.trans g3) h3⟩
abbrev FD := List D → (D → Prop) → Prop
def cLift (K : PySem.W.Frag) (B : Bx) (S : FD) : List V → Hp → VK → Prop := fun vs H P => ∃ (G : Hp) (ds : List D) (Q : D → Prop), Jn K B G H ∧ Dats K B G vs ds ∧ S ds Q ∧ ∀ d v G2 H2, Q d → Gr K B G H G2 H2 → Dat K B G2 v d → P v H2
def spD (K : PySem.W.Frag) (B : Bx) (S : FD) : Sp := fun vs H P _ => cLift K B S vs H P
def dCall (S : FD) (ra : DA) : DE := fun δ Q => ra δ fun ds => S ds Q
theorem liftC {K : PySem.W.Frag} {S : FD} {ra : DA} {σ : L2.St} {H : Hp} {P : VK} (q : liftE K B (dCall S ra) σ H P) : liftA K B ra σ H fun vs H1 => cLift K B S vs H1 P := by
  obtain ⟨H0, G, δ, Q, j, st, hr, k⟩ := q
  refine ⟨H0, G, δ, _, j, st, hr, fun ds vs G2 H2 q2 g2 h2 => ?_⟩
  exact ⟨G2, ds, Q, g2.j, h2, q2, fun d v G3 H3 q3 g3 h3 => k d v G3 H3 q3 (g2.trans g3) h3⟩
theorem pd_call {CX : CXT} {k : Nat} {f : Addr} {fd : FuncData} {ps : List Str} {S : FD} {x : Str} {E : XK} {ra : DA} {fp : Pos} (F : FnOk X.prog X.w X.K X.mg X.base CX k f fd ps (spD X.K B S)) (hr : Room k X.A) (hg : Gl X x) (hm : X.mg x = some (.ref f)) (hk : PySem.W.keepIn X.K (.ref f) = true)
    (hb : Binds X.K fd ps []) (hx : Passes CX X E) (ha : PAD X B (e :: es) ra) (hd : (x == ("__debug__" : Str)) = false := by decide) (he : starEach (e :: es) X.env = (false, eval e X.env) :: starEach es X.env := by rfl) (hpl : (backTo pos (starEach es X.env)).any (·.1) = false := by rfl) : PD X B (.Call (.Name x fp) (e :: es) [] pos) (dCall S ra) :=
  pe_mono (pe_call F hr hg hm hk hb .nil hx ha hd he hpl) fun σ H P q => by
    have h := liftC q
    obtain ⟨H0, G, δ, Q, j, st, h1, k⟩ := h
    exact ⟨H0, G, δ, Q, j, st, h1, fun ds vs G2 H2 q2 g2 h2 => by
      show spD X.K B S (vs ++ []) H2 P E
      rw [List.append_nil]
      exact k ds vs G2 H2 q2 g2 h2⟩
theorem pd_callB {id : String} {S : FD} {x : Str} {ra : DA} {fp : Pos} (hc : CallR X (.builtin id) (cLift X.K B S)) (hg : Gl X x) (hm : X.mg x = none) (hv : bootBuiltins x = some (.builtin id)) (ha : PAD X B (e :: es) ra) (hn : x ≠ "__name__" := by decide) (hdb : (x == ("__debug__" : Str)) = false := by decide) (he : starEach (e :: es) X.env = (false, eval e X.env) :: starEach es X.env := by rfl) (hpl : (backTo pos (starEach es X.env)).any (·.1) = false := by rfl) :
    PD X B (.Call (.Name x fp) (e :: es) [] pos) (dCall S ra) := pe_mono (pe_callB hc hg hm hv ha hn hdb he hpl) fun _ _ _ q => liftC q
theorem pd_callTy {T : String} {S : FD} {x : Str} {ra : DA} {fp : Pos} (hc : CallR X (.type T) (cLift X.K B S)) (hg : Gl X x) (hm : X.mg x = none) (hv : bootBuiltins x = some (.type T)) (ha : PAD X B (e :: es) ra) (hn : x ≠ "__name__" := by decide) (hdb : (x == ("__debug__" : Str)) = false := by decide) (he : starEach (e :: es) X.env = (false, eval e X.env) :: starEach es X.env := by rfl) (hpl : (backTo pos (starEach es X.env)).any (·.1) = false := by rfl) :
    PD X B (.Call (.Name x fp) (e :: es) [] pos) (dCall S ra) := pe_mono (pe_callTy hc hg hm hv ha hn hdb he hpl) fun _ _ _ q => liftC q
end
section
variable {X : Cx} {B : Bx} {e : Expr} {st : Stmt} {rest : List Stmt} {r : DE} {t u : DTS} {pos : Pos}
def dNext : DTS := fun W δ => W.nx δ
def dSeq (t u : DTS) : DTS := fun W δ => t { W with nx := u W } δ
theorem psd_nil : PSsD X B [] dNext := pss_mono pss_nil fun E σ H q => by
  obtain ⟨G0, H0, G, δ, W, g, s, h, k⟩ := q
  exact k.nx σ δ G H h g (Ex.refl _) s
theorem psd_cons (h1 : PSD X B st t) (h2 : PSsD X B rest u) : PSsD X B (st :: rest) (dSeq t u) := pss_mono (pss_cons h1 h2) fun E σ H q => by
  obtain ⟨G0, H0, G, δ, W, g, s, h, k⟩ := q
  exact ⟨G0, H0, G, δ, _, g, s, h, ⟨fun σ' δ' G2 H2 q2 g2 e2 s2 => ⟨G0, H0, G2, δ', W, g2, s2, q2, k.up e2⟩, k.bk, k.ct, k.rt, k.ro⟩⟩
theorem psd_one (h1 : PSD X B st t) : PSsD X B [st] t := pss_mono (pss_one h1) fun _ _ _ q => q
/-- from an expression at a statement's place -/
theorem at_stmt {K : PySem.W.Frag} {G0 H0 G H : Hp} {σ : L2.St} {δ : DS} {P : VK} {Q : D → Prop} (g : Gr K B G0 H0 G H) (s : StOk K B H0 G H σ δ) (h : r δ Q)
    (k : ∀ d v G2 H2, Q d → Gr K B G0 H0 G2 H2 → Ex G G2 → StOk K B H0 G2 H2 σ δ → Dat K B G2 v d → P v H2) : liftE K B r σ H P :=
  ⟨H0, G, δ, Q, g.j, s, h, fun d v G2 H2 q2 g2 h2 => k d v G2 H2 q2 (g.trans g2) g2.ex (s.gr g2) h2⟩
def dRet (r : DE) : DTS := fun W δ => r δ W.rt
theorem psd_ret (h : PD X B e r) : PSD X B (.Return (some e) pos) (dRet r) := ps_mono (ps_ret h) fun E σ H q => by
  obtain ⟨G0, H0, G, δ, W, g, s, h, k⟩ := q
  exact at_stmt g s h fun d v G2 H2 q2 g2 e2 _ h2 => k.rt d v G2 H2 q2 g2 e2 h2
def dNever : DTS := fun _ _ => False
theorem psd_never : PSD X B st dNever := ps_mono ps_never fun E σ H q => by
  obtain ⟨G0, H0, G, δ, W, g, s, h, k⟩ := q
  exact h
def dIfS (c : DT) (t u : DTS) : DTS := fun W δ => c δ fun b => if b = true then t W δ else u W δ
theorem psd_if {c : Expr} {a b : List Stmt} {tc : DT} (hc : PTD X B c tc) (ha : PSsD X B a t) (hb : PSsD X B b u) : PSD X B (.If c a b pos) (dIfS tc t u) := ps_mono (ps_if hc ha hb) fun E σ H q => by
  obtain ⟨G0, H0, G, δ, W, g, s, h, k⟩ := q
  refine ⟨H0, G, δ, _, g.j, s, h, fun c G2 H2 q2 g2 => ?_⟩
  cases c with
  | true => exact ⟨G0, H0, G2, δ, W, g.trans g2, s.gr g2, q2, k.up g2.ex⟩
  | false => exact ⟨G0, H0, G2, δ, W, g.trans g2, s.gr g2, q2, k.up g2.ex⟩
def gN (i : Nat) : DG := fun d δ Q => Q (δ.set i (some (.sh d)))
theorem pgd_name {i : Nat} {x : Str} (hN : X.N.Nodup) (hi : X.N[i]? = some x) (hx : Loc X.env.scope x) (hf : X.fn x = true ∨ X.env.scope.names.lookup x = some .local := by first | exact .inl rfl | exact .inr rfl | assumption) : PGD X B (.Name x pos) [i] (gN i) :=
  pg_mono (pg_name hN hi hx hf) fun v σ H R q => by
    obtain ⟨H0, G, δ, d, Q, j, s, hd, h, k⟩ := q
    exact k _ _ h (s.set hd) ⟨List.length_set .., fun j hj => List.getElem?_set_ne (fun z => hj (by simp [z]))⟩
def gsNil : DGs := fun ds δ Q => match ds with
  | [] => Q δ
  | _ => False
def gsCons (g : DG) (gs : DGs) : DGs := fun ds δ Q => match ds with
  | d :: ds => g d δ fun δ' => gs ds δ' Q
  | [] => False
def dAsg (r : DE) (g : DG) : DTS := fun W δ => r δ fun d => g d δ W.nx
def dSet (i : Nat) (r : DE) : DTS := fun W δ => r δ fun d => W.nx (δ.set i (some (.sh d)))
theorem psd_set {i : Nat} {x : Str} {pos' : Pos} (hN : X.N.Nodup) (hi : X.N[i]? = some x) (hx : Loc X.env.scope x) (he : PD X B e r) (hs : swapsWith e (some (.Name x pos')) pos.line X.env = pure false := by rfl) (hf : X.fn x = true ∨ X.env.scope.names.lookup x = some .local := by first | exact .inl rfl | exact .inr rfl | assumption) :
    PSD X B (.Assign [.Name x pos'] e pos) (dSet i r) := ps_mono (ps_set hN hi hx he hs hf) fun E σ H q => by
  obtain ⟨G0, H0, G, δ, W, g, s, h, k⟩ := q
  exact at_stmt g s h fun d v G2 H2 q2 g2 e2 s2 h2 => k.nx _ _ G2 H2 q2 g2 e2 (s2.set h2)
end
end DL
namespace DL
open PySem PySem.Spec PyProof.Rows L2 Evl
section
variable {X : Cx} {B : Bx} {e : Expr} {es : List Expr} {st : Stmt} {rest : List Stmt} {r : DE} {t u : DTS} {pos : Pos}
theorem pgsd_nil : PGsD X B [] [] gsNil := pgs_mono pgs_nil fun v σ H R q => by
  obtain ⟨H0, G, δ, ds, Q, j, s, hd, h, k⟩ := q
  cases hd with
  | nil => exact ⟨rfl, k _ _ h s (Upd.refl _ _)⟩
  | cons _ _ => exact h.elim
theorem pgsd_cons {g : DG} {gs : DGs} {is js : List Nat} (h1 : PGD X B e is g) (h2 : PGsD X B es js gs) (hs : (assignEach (e :: es) X.env).map (·.2) = assign e X.env :: (assignEach es X.env).map (·.2) := by rfl) : PGsD X B (e :: es) (is ++ js) (gsCons g gs) := pgs_mono (pgs_cons h1 h2 hs) fun v σ H R q => by
  obtain ⟨H0, G, δ, ds, Q, j, s, hd, h, k⟩ := q
  cases hd with
  | nil => exact h.elim
  | cons h3 h4 =>
    refine ⟨_, _, rfl, H0, G, δ, _, _, j, s, h3, h, fun σ' δ' q2 s2 u2 => ?_⟩
    exact ⟨H0, G, δ', _, Q, j, s2, h4, q2, fun σ3 δ3 q3 s3 u3 => k σ3 δ3 q3 s3 (u2.trans u3)⟩
def gT (n : Nat) (gs : DGs) : DG := fun d δ Q => match d with
  | .tup ds => match decide (ds.length = n) with
    | true => gs ds δ Q
    | false => False
  | _ => False
theorem pgd_tup {k n : Nat} {gs : DGs} {is : List Nat} (hc : X.calm = true) (h : PGsD X B es is gs) (hn : (assignEach es X.env).length = n := by rfl) (hst : (assignEach es X.env).findIdx? (·.1) = none := by rfl) : PGD X B (.Tuple es k pos) is (gT n gs) := pg_mono (pg_tup hc h hn hst) fun v σ H R q => by
  obtain ⟨H0, G, δ, d, Q, j, s, hd, h, k⟩ := q
  cases hd with
  | tup h3 h4 =>
    rename_i a xs ds
    have h : (match decide (ds.length = n) with | true => gs ds δ Q | false => False) := h
    cases hz : decide (ds.length = n) with
    | false => rw [hz] at h; exact h.elim
    | true =>
      rw [hz] at h
      exact ⟨a, xs, rfl, tx j.ex h3, h4.len.trans (of_decide_eq_true hz), H0, G, δ, ds, Q, j, s, h4, h, k⟩
  | _ => exact h.elim
theorem psd_asg {tg : Expr} {g : DG} {is : List Nat} (he : PD X B e r) (hg : PGD X B tg is g) (hs : swapsWithSole [tg] e pos.line X.env = pure false := by rfl) (hw : swappedStores [tg] e X.env = pure none := by rfl) (h1 : (assignEach [tg] X.env).map (·.2) = [assign tg X.env] := by rfl) :
    PSD X B (.Assign [tg] e pos) (dAsg r g) := ps_mono (ps_asg he hg hs hw h1) fun E σ H q => by
  obtain ⟨G0, H0, G, δ, W, g, s, h, k⟩ := q
  refine at_stmt g s h fun d v G2 H2 q2 g2 e2 s2 h2 => ?_
  exact ⟨H0, G2, δ, d, _, g2.j, s2, h2, q2, fun σ' δ' q3 s3 _ => k.nx σ' δ' G2 H2 q3 g2 e2 s3⟩
structure ItD (K : PySem.W.Frag) (B : Bx) (J : It) (G : Hp) (ds : List D) : Prop where
  go : ∀ i G1 H, Ex G G1 → Jn K B G1 H → i < ds.length → J.go i H
  yld : ∀ (i : Nat) G1 H x H' d, Ex G G1 → Jn K B G1 H → J.yld i H x H' → ds[i]? = some d → ∃ G2, Gr K B G1 H G2 H' ∧ Dat K B G2 x d
  stop : ∀ i G1 H, Ex G G1 → Jn K B G1 H → ds.length ≤ i → J.stop i H
def liftI (K : PySem.W.Frag) (B : Bx) (r : DA) : TI := fun σ H R => ∃ (H0 G : Hp) (δ : DS) (Q : List D → Prop), Jn K B G H ∧ StOk K B H0 G H σ δ ∧ r δ Q ∧ ∀ ds J G2 H2, Q ds → Gr K B G H G2 H2 → ItD K B J G2 ds → R J H2
abbrev PID (X : Cx) (B : Bx) (tg e : Expr) (r : DA) : Prop := PI X tg e (liftI X.K B r)
def chars (x : Str) : List D := x.cps.toList.map fun c => .str ⟨#[c]⟩
def iSeq (r : DE) : DA := fun δ Q => r δ fun d => match d with
  | .lst xs => Q xs
  | .tup xs => Q xs
  | .str x => Q (chars x)
  | _ => False
theorem itd_list {K : PySem.W.Frag} {G : Hp} {a : Addr} {xs : List V} {ds : List D} (h : G a = some (.lst xs)) (hd : Dats K B G xs ds) : ItD K B (Itl K a) G ds where
  go := fun i G1 H e j hi => ⟨xs, xs[i]'(by rw [hd.len]; exact hi), sq_of (j.ex _ _ (e _ _ h)), by simp⟩
  yld := fun i G1 H x H' d e j y hi => by
    obtain ⟨rfl, y⟩ := y
    have := y xs (sq_of (j.ex _ _ (e _ _ h)))
    obtain ⟨u, h1, h2⟩ := hd.get hi
    rw [this] at h1
    cases h1
    exact ⟨G1, Gr.refl j, h2.mono e⟩
  stop := fun i G1 H e j hi => ⟨xs, sq_of (j.ex _ _ (e _ _ h)), by rw [hd.len]; exact hi⟩
theorem itd_tup {K : PySem.W.Frag} {G : Hp} {a : Addr} {xs : List V} {ds : List D} (h : SqT K G a xs) (hd : Dats K B G xs ds) : ItD K B (Itt K a) G ds where
  go := fun i G1 H e j hi => ⟨xs, xs[i]'(by rw [hd.len]; exact hi), ex_t (e.trans j.ex) h, by simp⟩
  yld := fun i G1 H x H' d e j y hi => by
    obtain ⟨rfl, y⟩ := y
    have := y xs (ex_t (e.trans j.ex) h)
    obtain ⟨u, h1, h2⟩ := hd.get hi
    rw [this] at h1
    cases h1
    exact ⟨G1, Gr.refl j, h2.mono e⟩
  stop := fun i G1 H e j hi => ⟨xs, ex_t (e.trans j.ex) h, by rw [hd.len]; exact hi⟩
theorem itd_str {K : PySem.W.Frag} {G : Hp} {x : Str} : ItD K B (Its x) G (chars x) where
  go := fun i G1 H e j hi => by
    have : (chars x).length = x.cps.size := by simp [chars]
    show i < x.cps.size
    omega
  yld := fun i G1 H v H' d e j y hi => by
    obtain ⟨rfl, c, h1, h2⟩ := y
    subst h2
    have : d = .str ⟨#[c]⟩ := by
      unfold chars at hi
      rw [List.getElem?_map, Array.getElem?_toList, h1] at hi
      exact (Option.some.inj hi).symm
    subst this
    exact ⟨G1, Gr.refl j, .str _⟩
  stop := fun i G1 H e j hi => by
    have : (chars x).length = x.cps.size := by simp [chars]
    show x.cps.size ≤ i
    omega
theorem pid_seq {tg : Expr} (he : PD X B e r) : PID X B tg e (iSeq r) := by
  refine ⟨fun pins s σ H R I h => ?_⟩
  obtain ⟨H0, G, δ, Q, j, st, hr, k⟩ := h
  refine thn (he.run pins s σ H (fun x H1 => ∃ G2 d, (match d with | D.lst xs => Q xs | D.tup xs => Q xs | D.str x => Q (chars x) | _ => False) ∧ Gr X.K B G H G2 H1 ∧ Dat X.K B G2 x d) I ⟨H0, G, δ, _, j, st, hr, fun d v G2 H2 q2 g2 h2 => ⟨G2, d, q2, g2, h2⟩⟩) fun v s1 ⟨x, H1, I1, r1, q1⟩ => ?_
  obtain ⟨G2, d, q2, g2, h2⟩ := q1
  cases h2 with
  | @lst a xs ds h3 h4 =>
    cases r1
    obtain ⟨its, rv, p, hz⟩ := I1.list (sq_of (g2.j.ex _ _ h3))
    exact wpAny_pyIter_list p.isList (pi_one (tk := s1.toks) I1 _ (turn_list a _) ⟨_, Heap.get?_push_size _ rfl, rfl, rfl⟩ (k ds _ G2 H1 q2 g2 (itd_list h3 h4)))
  | @tup a xs ds h3 h4 =>
    cases r1
    obtain ⟨its, rv, p, hz⟩ := I1.tuple (tx g2.j.ex h3)
    exact wpAny_pyIter_tuple (show s1.heap.IsTuple a its.toArray from p) (pi_one (tk := s1.toks) I1 _ (turn_tuple a _) ⟨_, Heap.get?_push_size _ rfl, rfl, rfl⟩ (k ds _ G2 H1 q2 g2 (itd_tup (st_of h3) h4)))
  | str x =>
    obtain ⟨t, rfl⟩ := r1
    cases ha : x.cps.all (· < 128)
    · exact wpAny_pyIter_wide ha (pi_one (tk := s1.toks) I1 _ (turn_str _ x t "str_iterator" (.inr rfl)) ⟨_, Heap.get?_push_size _ rfl, rfl, rfl⟩ (k _ _ G2 H1 q2 g2 itd_str))
    · exact wpAny_pyIter_ascii ha (pi_one (tk := s1.toks) I1 _ (turn_str _ x t "str_ascii_iterator" (.inl rfl)) ⟨_, Heap.get?_push_size _ rfl, rfl, rfl⟩ (k _ _ G2 H1 q2 g2 itd_str))
  | _ => exact q2.elim
def ups (lo : Int) (n : Nat) : List D := (List.range n).map fun (i : Nat) => .int (lo + (i : Int))
theorem itd_range {K : PySem.W.Frag} {G : Hp} {lo : Int} {n : Nat} : ItD K B (Itr lo n) G (ups lo n) where
  go := fun i G1 H e j hi => by
    have : (ups lo n).length = n := by simp [ups]
    show i < n
    omega
  yld := fun i G1 H v H' d e j y hi => by
    obtain ⟨rfl, rfl⟩ := y
    have hl : (ups lo n).length = n := by simp [ups]
    have hi' : i < n := by
      have := (List.getElem?_eq_some_iff.mp hi).1
      omega
    unfold ups at hi
    rw [List.getElem?_map, List.getElem?_range hi'] at hi
    cases hi
    exact ⟨G1, Gr.refl j, .int _⟩
  stop := fun i G1 H e j hi => by
    have : (ups lo n).length = n := by simp [ups]
    show n ≤ i
    omega
def iR1 (ra : DA) : DA := fun δ Q => ra δ fun ds => match ds with
  | [.int n] => (-(2 ^ 62) ≤ n ∧ n < 2 ^ 62) ∧ Q (ups 0 n.toNat)
  | _ => False
theorem pid_r1 {tg a : Expr} {ra : DA} {p : Pos} (hg : Gl X "range") (hm : X.mg "range" = none) (ha : PAD X B [a] ra) (hs : starEach [a] X.env = [(false, eval a X.env)] := by rfl) : PID X B tg (.Call (.Name "range" p) [a] [] pos) (iR1 ra) :=
  ⟨fun pins s σ H R I h => (pi_range1 (tg := tg) hg hm ha hs).run pins s σ H R I (by
    obtain ⟨H0, G, δ, Q, j, st, hr, k⟩ := h
    refine ⟨H0, G, δ, _, j, st, hr, fun ds vs G2 H2 q2 g2 h2 => ?_⟩
    cases h2 with
    | nil => exact q2.elim
    | cons h3 h4 =>
      cases h3 with
      | int n =>
        cases h4 with
        | nil => exact ⟨n, rfl, q2.1.1, q2.1.2, k _ _ G2 H2 q2.2 g2 itd_range⟩
        | cons _ _ => exact q2.elim
      | _ => exact q2.elim)⟩
def forD (g : DG) (tb : DTS) (W : DEnds) : List D → DS → Prop
  | [], δ => W.nx δ
  | d :: ds, δ => g d δ fun δ' => tb { W with nx := forD g tb W ds, ct := forD g tb W ds, bk := W.nx } δ'
def dFor (ri : DA) (g : DG) (tb : DTS) : DTS := fun W δ => ri δ fun ds => forD g tb W ds δ
theorem psd_for {tg iter : Expr} {body : List Stmt} {ri : DA} {g : DG} {is : List Nat} {tb : DTS} (hp : PassesOwn (model X.prog X.w) X.A X.env X.xe) (hc : X.calm = true) (hi : PID X B tg iter ri) (hg : PGD X B tg is g) (hb : PSsD X B body tb)
    (hs : ∀ x, foldedSetIterable iter X.env x = pure x := by intro _; rfl) : PSD X B (.For tg iter body [] pos) (dFor ri g tb) := ps_mono (ps_for hp hc hi hg hb hs) fun E σ H q => by
  obtain ⟨G0, H0, G, δ, W, g0, s, h, k⟩ := q
  refine ⟨H0, G, δ, _, g0.j, s, h, fun ds J G2 H2 q2 g2 it => ?_⟩
  refine ⟨fun i m σ H => i + m = ds.length ∧ ∃ G' δ', Ex G2 G' ∧ Gr X.K B G0 H0 G' H ∧ StOk X.K B H0 G' H σ δ' ∧ forD g tb W (ds.drop i) δ', ⟨ds.length, by omega, G2, δ, Ex.refl _, g0.trans g2, s.gr g2, q2⟩, fun i m σ H hw => ?_⟩
  obtain ⟨em, G', δ', ex, gr, st, hf⟩ := hw
  by_cases hlt : i < ds.length
  · refine .inr ⟨it.go i G' H ex gr.j hlt, fun σ1 H1 => ∃ G3 δ3, Ex G2 G3 ∧ Gr X.K B G0 H0 G3 H1 ∧ StOk X.K B H0 G3 H1 σ1 δ3 ∧ forD g tb W (ds.drop (i + 1)) δ3, fun σ1 H1 hn => ⟨m - 1, by omega, by omega, hn⟩, fun x H1 hy => ?_⟩
    have hd : ds[i]? = some ds[i] := List.getElem?_eq_getElem hlt
    obtain ⟨G3, g3, hx⟩ := it.yld i G' H x H1 _ ex gr.j hy hd
    rw [List.drop_eq_getElem_cons hlt] at hf
    refine ⟨H0, G3, δ', ds[i], _, g3.j, st.gr g3, hx, hf, fun σ2 δ2 q3 s3 _ => ?_⟩
    refine ⟨G0, H0, G3, δ2, _, gr.trans g3, s3, q3, ⟨?_, ?_, ?_, ?_, ?_⟩⟩
    · exact fun σ4 δ4 G4 H4 q4 g4 e4 s4 => ⟨G4, δ4, (ex.trans g3.ex).trans e4, g4, s4, q4⟩
    · exact fun σ4 δ4 G4 H4 q4 g4 e4 s4 => k.nx _ _ _ _ q4 g4 (g2.ex.trans ((ex.trans g3.ex).trans e4)) s4
    · exact fun σ4 δ4 G4 H4 q4 g4 e4 s4 => ⟨G4, δ4, (ex.trans g3.ex).trans e4, g4, s4, q4⟩
    · exact fun d v G4 H4 q4 g4 e4 h4 => k.rt _ _ _ _ q4 g4 (g2.ex.trans ((ex.trans g3.ex).trans e4)) h4
    · exact fun o v f G4 H4 q4 g4 e4 h4 => k.ro _ _ _ _ _ q4 g4 (g2.ex.trans ((ex.trans g3.ex).trans e4)) h4
  · have e : i = ds.length := by omega
    subst e
    rw [List.drop_length] at hf
    exact .inl ⟨it.stop _ G' H ex gr.j (Nat.le_refl _), k.nx _ _ _ _ hf gr (g2.ex.trans ex) st⟩
end
end DL
namespace DL
open PySem PySem.Spec PyProof.Rows L2 Evl
def wipeD (δ : DS) : List Nat → DS
  | [] => δ
  | v :: vs => (wipeD δ vs).set v none
theorem StOk.wipe {K : PySem.W.Frag} {B : Bx} {H0 G H : Hp} {σ : L2.St} {δ : DS} (x : StOk K B H0 G H σ δ) : ∀ vs : List Nat, StOk K B H0 G H (L2.wipe σ vs) (wipeD δ vs)
  | [] => x
  | _ :: vs => (StOk.wipe x vs).forget
def lcD (g : DG) (tt : DT) (te : DE) (δ : DS) (Q : List D → Prop) : List D → List D → Prop
  | [], acc => Q acc
  | d :: ds, acc => g d δ fun δ' => tt δ' fun b => if b = true then te δ' fun y => lcD g tt te δ Q ds (acc ++ [y]) else lcD g tt te δ Q ds acc
def fLc (ri : DA) (g : DG) (tt : DT) (te : DE) (vs : List Nat) : DA := fun δ Q => ri δ fun ds => ds.length ≤ sizeLine ∧ lcD g tt te (wipeD δ vs) Q ds []
section
variable {X : Cx} {B : Bx}
abbrev PTsD (X : Cx) (B : Bx) (es : List Expr) (r : DT) : Prop := PTs X es (liftT X.K B r)
def dYes : DT := fun _ Q => Q true
theorem ptsd_nil : PTsD X B [] dYes := ⟨fun pins s σ H Q I h => pts_nil.run pins s σ H Q I (by
  obtain ⟨H0, G, δ, Q', j, st, hr, k⟩ := h
  exact k true G H hr (Gr.refl j))⟩
theorem ptsd_one {c : Expr} {t : DT} (h : PTD X B c t) : PTsD X B [c] t := pts_one h
theorem lift_lc {K : PySem.W.Frag} {ri : DA} {g : DG} {is : List Nat} {tt : DT} {te : DE} {vs : List Nat} {σ : L2.St} {H : Hp} {P : VK} (hv : ∀ i ∈ is, i ∈ vs) (q : liftF K B (fLc ri g tt te vs) σ H P) :
    tLc (liftI K B ri) (liftG K B is g) (liftT K B tt) (liftE K B te) vs σ H P := by
  obtain ⟨H0, G, δ, Q, j, st, hr, k⟩ := q
  refine ⟨H0, G, δ, _, j, st, hr, fun ds J G2 H2 q2 g2 it p hp => ?_⟩
  obtain ⟨hz, q2⟩ := q2
  have nb : B.nb p := Gr.neB g2.j hp
  have gp : G2 p = none := fresh_back g2.j.ex hp
  have st2 := (st.gr g2)
  refine ⟨fun i m H' => i + m = ds.length ∧ ∃ G' acc accD, Gr K B G2 H2 G' H' ∧ G' p = none ∧ H' p = some (.lst acc) ∧ Dats K B G' acc accD ∧ acc.length ≤ i ∧ lcD g tt te (wipeD δ vs) Q (ds.drop i) accD,
    ⟨ds.length, by omega, G2, [], [], Gr.new0 g2.j hp, gp, upd_same, .nil, Nat.le_refl _, q2⟩, fun i m H' hw => ?_⟩
  obtain ⟨em, G', acc, accD, gr, gp', hp', ha, hl, hf⟩ := hw
  by_cases hlt : i < ds.length
  · refine .inr ⟨it.go i G' H' gr.ex gr.j hlt, fun H1 => ∃ G1 acc accD, Gr K B G2 H2 G1 H1 ∧ G1 p = none ∧ H1 p = some (.lst acc) ∧ Dats K B G1 acc accD ∧ acc.length ≤ i + 1 ∧ lcD g tt te (wipeD δ vs) Q (ds.drop (i + 1)) accD, fun H1 hn => ⟨m - 1, by omega, by omega, hn⟩, fun x H1 hy => ?_⟩
    have hd : ds[i]? = some ds[i] := List.getElem?_eq_getElem hlt
    obtain ⟨G3, g3, hx⟩ := it.yld i G' H' x H1 _ gr.ex gr.j hy hd
    rw [List.drop_eq_getElem_cons hlt] at hf
    have hpn : Mu H' p := ⟨_, hp', nl rfl⟩
    refine ⟨H0, G3, wipeD δ vs, ds[i], _, g3.j, (st2.gr (gr.trans g3)).wipe vs, hx, hf, fun σ2 δ2 q3 s3 u3 => ?_⟩
    refine ⟨by rw [u3.wipe hv, wipe_wipe], H0, G3, δ2, _, g3.j, s3, q3, fun b G4 H4 q4 g4 => ?_⟩
    have g34 := g3.trans g4
    cases b with
    | false =>
      exact ⟨G4, acc, accD, gr.trans g34, by rw [g34.old p hpn]; exact gp', g34.keep p _ nb hp', ha.mono g34.ex, Nat.le_succ_of_le hl, q4⟩
    | true =>
      refine ⟨H0, G4, δ2, _, g4.j, s3.gr g4, q4, fun y u G5 H5 q5 g5 h5 => ?_⟩
      have g35 := g34.trans g5
      have gp5 : G5 p = none := by rw [g35.old p hpn]; exact gp'
      refine ⟨acc, g35.keep p _ nb hp', by omega, G5, _, _, (gr.trans g35).own hp gp5 nb, gp5, upd_same, (ha.mono g35.ex).append (.cons h5 .nil), ?_, q5⟩
      rw [List.length_append]
      show acc.length + 1 ≤ i + 1
      omega
  · have e : i = ds.length := by omega
    subst e
    rw [List.drop_length] at hf
    exact .inl ⟨it.stop _ G' H' gr.ex gr.j (Nat.le_refl _), k _ p acc G' H' hf (g2.trans gr) (g2.free hp) gp' hp' ha⟩
theorem pf_lc {elt tg iter : Expr} {ifs : List Expr} {scope : Scope} {own : List (Str × Nat)} {pos : Pos} {ri : DA} {g : DG} {is : List Nat} {tt : DT} {te : DE} (hc : X.calm = true) (hN : X.N.Nodup) (hi : PID X B tg iter ri) (ok : BlkOk X.N X.env.scope scope own) (hv : ∀ i ∈ is, i ∈ own.map (·.2))
    (hg : ∀ (s : Shared) (H : Hp) (C : Addr) (cl : List (Str × Addr)) (fp : List Addr), PGD (X.blk s H scope (compEnvC scope cl C X.env) fp) B tg is g) (ht : ∀ (s : Shared) (H : Hp) (C : Addr) (cl : List (Str × Addr)) (fp : List Addr), PTsD (X.blk s H scope (compEnvC scope cl C X.env) fp) B ifs tt)
    (he : ∀ (s : Shared) (H : Hp) (C : Addr) (cl : List (Str × Addr)) (fp : List Addr), PD (X.blk s H scope (compEnvC scope cl C X.env) fp) B elt te) (hs : ∀ x, foldedSetIterable iter X.env x = pure x := by intro _; rfl) :
    PF X B (.ListComp elt [⟨tg, iter, ifs, 0⟩] scope pos) (fLc ri g tt te (own.map (·.2))) := pe_mono (pe_lc hc hN hi ok hg ht he hs) fun _ _ _ q => lift_lc hv q
/-- y = [..] -/
theorem psd_setLc {i : Nat} {y : Str} {py : Pos} {elt tg iter : Expr} {ifs : List Expr} {scope : Scope} {own : List (Str × Nat)} {pos spos : Pos} {ri : DA} {g : DG} {is : List Nat} {tt : DT} {te : DE} (hc : X.calm = true) (hN : X.N.Nodup) (hy : X.N[i]? = some y) (hyl : X.env.scope.names.lookup y = some .local)
    (hsw : swapsWith (.ListComp elt [⟨tg, iter, ifs, 0⟩] scope pos) (some (.Name y py)) spos.line X.env = pure true) (hi : PID X B tg iter ri) (ok : BlkOk X.N X.env.scope scope own) (hv : ∀ i ∈ is, i ∈ own.map (·.2))
    (hg : ∀ (s : Shared) (H : Hp) (C : Addr) (cl : List (Str × Addr)) (fp : List Addr), PGD (X.blk s H scope (compEnvC scope cl C X.env) fp) B tg is g) (ht : ∀ (s : Shared) (H : Hp) (C : Addr) (cl : List (Str × Addr)) (fp : List Addr), PTsD (X.blk s H scope (compEnvC scope cl C X.env) fp) B ifs tt)
    (he : ∀ (s : Shared) (H : Hp) (C : Addr) (cl : List (Str × Addr)) (fp : List Addr), PD (X.blk s H scope (compEnvC scope cl C X.env) fp) B elt te) (hs : ∀ x, foldedSetIterable iter X.env x = pure x := by intro _; rfl) :
    PSD X B (.Assign [.Name y py] (.ListComp elt [⟨tg, iter, ifs, 0⟩] scope pos) spos) (dSet i (dF (fLc ri g tt te (own.map (·.2))))) := ps_mono (ps_setLc hc hN hy hyl hsw hi ok hg ht he hs) fun E σ H q => by
  obtain ⟨G0, H0, G, δ, W, g0, s, h, k⟩ := q
  refine lift_lc hv ⟨H0, G, δ, _, g0.j, s, h, fun ds p vs G2 H2 q2 g2 hp gp h2 hd => ?_⟩
  have g3 := g2.frz hp gp (Gr.neB g0.j hp) h2
  exact k.nx _ _ _ _ q2 (g0.trans g3) g3.ex ((s.gr g3).set (.lst upd_same (hd.mono (Ex.new gp))))
/-- what was one's own becomes known -/
theorem Gr.frzs {K : PySem.W.Frag} {G H G2 H2 : Hp} {f : List Addr} (x : Gr K B G H G2 H2) (hf : ∀ p ∈ f, H p = none ∧ B.nb p ∧ G2 p = none) : Gr K B G H (frzG G2 H2 f) H2 := by
  have ex := frz_ex (G := G2) (H := H2) (f := f) fun p hp => (hf p hp).2.2
  have nn : ∀ a, ¬ B.nb a → a ∉ f := fun a n z => n (hf a z).2.1
  refine ⟨x.ex.trans ex, x.kp, ⟨fun a u h => ?_, ?_, ?_, x.j.next ex (fun _ _ _ h => h) (fun a n _ => by unfold frzG; rw [if_neg (nn a n)]) (fun t h _ => ⟨rfl, fun g => by unfold frzG; rw [if_neg fun z => (hf _ z).2.1.tab t h rfl]; exact g⟩) (fun _ _ h => ⟨_, h⟩)⟩, fun a h => ?_⟩
  · unfold frzG at h
    split at h
    · exact h
    · exact x.j.ex a u h
  · unfold frzG
    rw [if_neg fun z => (hf _ z).2.1.1.1 rfl]
    exact x.j.no
  · obtain ⟨a, b, c, ns, h1, h2, h3⟩ := x.j.bag
    exact ⟨a, b, c, ns, h1, ex_l ex h2, h3⟩
  · unfold frzG
    rw [if_neg fun z => h.ne (hf _ z).1]
    exact x.old a h
/-- what stands in slot i is one's own no more: it's data from here on -/
def dFrz (i : Nat) (t : DTS) : DTS := fun W δ => match δ[i]? with
  | some (some (.ow _ o)) => t W (δ.set i (some (.sh o.toD)))
  | _ => False
theorem set_same {σ : L2.St} {i : Nat} {v : V} (h : σ[i]? = some (some v)) : σ.set i (some v) = σ := by
  apply List.ext_getElem?
  intro j
  by_cases hj : i = j
  · subst hj
    rw [List.getElem?_set_self (List.getElem?_eq_some_iff.mp h).1, h]
  · rw [List.getElem?_set_ne hj]
/-- the dicts at these places are locked -/
theorem lock_all {pins : List (Addr × Obj)} {σ : L2.St} {s : Shared} : ∀ (f : List Addr) {H : Hp}, Inv X pins σ H s → f.Nodup → ∃ L, Inv X pins σ L s ∧ Lkd H L f
  | [], H, I, _ => ⟨H, I, fun _ _ => rfl, fun _ _ h => h, (fun _ _ z => nomatch z), (fun _ _ z => nomatch z), fun _ _ h => h⟩
  | p :: f, H, I, nd => by
    have hp : p ∉ f := (List.nodup_cons.mp nd).1
    obtain ⟨L, I1, l⟩ := lock_all f I (List.nodup_cons.mp nd).2
    have hpL : L p = H p := l.out p hp
    by_cases h1 : ∃ u, H p = some u ∧ Mut (some u) ∧ ((∃ vs, u = .dK vs) ∨ ∃ vs, u = .dT vs)
    · obtain ⟨u, hu, mu, hk⟩ := h1
      obtain ⟨od, I2⟩ := I1.lock (hpL.trans hu) mu
      refine ⟨_, I2, fun q hq => ?_, fun q vs h => ?_, fun q vs hq h => ?_, fun q vs hq h => ?_, fun q ps h => ?_⟩
      · rw [upd_ne fun e => hq (by rw [e]; exact List.mem_cons_self)]
        exact l.out q fun z => hq (List.mem_cons_of_mem _ z)
      · have ne : q ≠ p := fun e => by
          rw [e, hu] at h
          cases h
          rcases hk with ⟨_, z⟩ | ⟨_, z⟩ <;> cases z
        rw [upd_ne ne]
        exact l.lst q vs h
      · by_cases e : q = p
        · subst e
          rw [hu] at h
          cases h
          exact ⟨od, upd_same⟩
        · rw [upd_ne e]
          exact l.dK q vs ((List.mem_cons.mp hq).resolve_left e) h
      · by_cases e : q = p
        · subst e
          rw [hu] at h
          cases h
          exact ⟨od, upd_same⟩
        · rw [upd_ne e]
          exact l.dT q vs ((List.mem_cons.mp hq).resolve_left e) h
      · by_cases e : q = p
        · subst e
          rw [upd_same] at h
          cases h
        · rw [upd_ne e] at h
          exact l.tb q ps h
    · refine ⟨L, I1, fun q hq => l.out q fun z => hq (List.mem_cons_of_mem _ z), l.lst, fun q vs hq h => ?_, fun q vs hq h => ?_, l.tb⟩
      · by_cases e : q = p
        · subst e
          exact absurd ⟨_, h, trivial, .inl ⟨_, rfl⟩⟩ h1
        · exact l.dK q vs ((List.mem_cons.mp hq).resolve_left e) h
      · by_cases e : q = p
        · subst e
          exact absurd ⟨_, h, trivial, .inr ⟨_, rfl⟩⟩ h1
        · exact l.dT q vs ((List.mem_cons.mp hq).resolve_left e) h
/-- own places are locked: what is known stays known -/
theorem Gr.lock {K : PySem.W.Frag} {G H G2 H2 L : Hp} {f : List Addr} (x : Gr K B G H G2 H2) (l : Lkd H2 L f) (hf : ∀ p ∈ f, H p = none ∧ B.nb p ∧ G2 p = none) : Gr K B G H G2 L := by
  refine ⟨x.ex, fun a o n h => ?_, ⟨fun a u h => ?_, x.j.no, ?_, x.j.next (Ex.refl _) (fun a o n h => (l.out a fun z => n (hf a z).2.1).trans h) (fun _ _ _ => rfl) (fun t h _ => ⟨l.out _ fun z => (hf _ z).2.1.tab t h rfl, fun g => g⟩) (fun a ps h => ⟨ps, l.tb a ps h⟩)⟩, x.old⟩
  · rw [l.out a fun z => by rw [(hf a z).1] at h; cases h]
    exact x.kp a o n h
  · rw [l.out a fun z => by rw [(hf a z).2.2] at h; cases h]
    exact x.j.ex a u h
  · obtain ⟨a, b, c, ns, h1, h2, h3⟩ := x.j.bag
    exact ⟨a, b, c, ns, by rw [l.out _ fun z => (hf _ z).2.1.1.1 rfl]; exact h1, h2, h3⟩
theorem frz_run {i : Nat} {t : DTS} {E : Ends} {σ : L2.St} {H : Hp} {pins : List (Addr × Obj)} {s : Shared} (I : Inv X pins σ H s) (q : liftS X.K B (dFrz i t) E σ H) : ∃ L, Inv X pins σ L s ∧ liftS X.K B t E σ L := by
  obtain ⟨G0, H0, G, δ, W, g0, st, h, k⟩ := q
  unfold dFrz at h
  cases h1 : δ[i]? with
  | none => rw [h1] at h; exact h.elim
  | some o =>
    cases o with
    | none => rw [h1] at h; exact h.elim
    | some x =>
      cases x with
      | sh d => rw [h1] at h; exact h.elim
      | nw _ _ _ => rw [h1] at h; exact h.elim
      | ow v o =>
        rw [h1] at h
        obtain ⟨F, y⟩ := st.ex
        obtain ⟨e1, e2, e3, e4⟩ := y.ow h1
        obtain ⟨L, I2, l⟩ := lock_all (F i) I e3
        have hG : ∀ p ∈ F i, G p = none := fun p hp => (e2.node p hp).1
        have ex := frz_ex (G := G) (H := L) hG
        have g1 := g0.lock l fun p hp => ⟨(e4 p hp).1, (e4 p hp).2, hG p hp⟩
        refine ⟨L, I2, G0, H0, frzG G L (F i), δ.set i (some (.sh o.toD)), W, g1.frzs fun p hp => ⟨(e4 p hp).1, (e4 p hp).2, hG p hp⟩, ?_, h, k.up ex⟩
        have s3 := y.put (i := i) (List.getElem?_eq_some_iff.mp e1).1 ex (H2 := L) (fun p _ _ hp => ⟨l.out p hp, by unfold frzG; rw [if_neg hp]⟩) (.sh (e2.dat hG l fun p hp => hp)) fun p hp => nomatch hp
        rw [set_same e1] at s3
        exact ⟨_, s3⟩
theorem psds_frz {st : List Stmt} {t : DTS} (i : Nat) (h : PSsD X B st t) : PSsD X B st (dFrz i t) := ⟨fun pins s σ H E I hw => let ⟨L, I2, q⟩ := frz_run I hw; h.run pins s σ L E I2 q⟩
def dWhile (c : DT) (tb : DTS) : DTS := fun W δ => ∃ I : Nat → DS → Prop, (∃ m, I m δ) ∧ ∀ m δ', I m δ' → c δ' fun b => if b = true then tb { W with nx := fun δ2 => ∃ m', m' < m ∧ I m' δ2, ct := fun δ2 => ∃ m', m' < m ∧ I m' δ2, bk := W.nx } δ' else W.nx δ'
theorem psd_while {c : Expr} {body : List Stmt} {tc : DT} {tb : DTS} {pos : Pos} (hp : PassesOwn (model X.prog X.w) X.A X.env X.xe) (hc : PTD X B c tc) (hb : PSsD X B body tb) : PSD X B (.While c body [] pos) (dWhile tc tb) := ps_mono (ps_while hp hc hb) fun E σ H q => by
  obtain ⟨G0, H0, G, δ, W, g0, s, ⟨I, ⟨m0, h0⟩, h⟩, k⟩ := q
  refine ⟨fun m σ H => ∃ G' δ', Ex G G' ∧ Gr X.K B G0 H0 G' H ∧ StOk X.K B H0 G' H σ δ' ∧ I m δ', ⟨m0, G, δ, Ex.refl _, g0, s, h0⟩, fun m σ H hw => ?_⟩
  obtain ⟨G', δ', ex, gr, st, hi⟩ := hw
  refine ⟨H0, G', δ', _, gr.j, st, h m δ' hi, fun b G2 H2 q2 g2 => ?_⟩
  cases b with
  | false => exact k.nx _ _ _ _ q2 (gr.trans g2) (ex.trans g2.ex) (st.gr g2)
  | true =>
    refine ⟨fun σ1 H1 => ∃ G1 δ1, Ex G G1 ∧ Gr X.K B G0 H0 G1 H1 ∧ StOk X.K B H0 G1 H1 σ1 δ1 ∧ ∃ m', m' < m ∧ I m' δ1, fun σ1 H1 hn => ?_, ?_⟩
    · obtain ⟨G1, δ1, a1, a2, a3, m', a4, a5⟩ := hn
      exact ⟨m', a4, G1, δ1, a1, a2, a3, a5⟩
    · refine ⟨G0, H0, G2, δ', _, gr.trans g2, st.gr g2, q2, ⟨?_, ?_, ?_, ?_, ?_⟩⟩
      · exact fun σ4 δ4 G4 H4 q4 g4 e4 s4 => ⟨G4, δ4, (ex.trans g2.ex).trans e4, g4, s4, q4⟩
      · exact fun σ4 δ4 G4 H4 q4 g4 e4 s4 => k.nx _ _ _ _ q4 g4 ((ex.trans g2.ex).trans e4) s4
      · exact fun σ4 δ4 G4 H4 q4 g4 e4 s4 => ⟨G4, δ4, (ex.trans g2.ex).trans e4, g4, s4, q4⟩
      · exact fun d v G4 H4 q4 g4 e4 h4 => k.rt _ _ _ _ q4 g4 ((ex.trans g2.ex).trans e4) h4
      · exact fun o v f G4 H4 q4 g4 e4 h4 => k.ro _ _ _ _ _ q4 g4 ((ex.trans g2.ex).trans e4) h4
end
def startD (n : Nat) (ds : List D) : DS := ds.map (fun d => some (.sh d)) ++ List.replicate (n - ds.length) none
theorem start_ok {K : PySem.W.Frag} {B : Bx} {H0 G H : Hp} {N : List Str} {vs : List V} {ds : List D} (h : Dats K B G vs ds) : StOk K B H0 G H (L2.start N vs) (startD N.length ds) := by
  refine ⟨fun _ => [], ?_, fun i ov od e1 e2 => ?_, fun _ _ _ _ _ p hp => nomatch hp⟩
  · unfold L2.start startD
    rw [List.length_append, List.length_append, List.length_map, List.length_map, List.length_replicate, List.length_replicate, h.len]
  · unfold startD at e2
    unfold L2.start at e1
    by_cases hi : i < ds.length
    · rw [List.getElem?_append_left (by rw [List.length_map]; exact hi), List.getElem?_map] at e2
      rw [List.getElem?_append_left (by rw [List.length_map, h.len]; exact hi), List.getElem?_map] at e1
      cases hd : ds[i]? with
      | none => rw [hd] at e2; cases e2
      | some d' =>
        rw [hd] at e2
        cases e2
        obtain ⟨v, h1, h2⟩ := h.get hd
        rw [h1] at e1
        cases e1
        exact .sh h2
    · rw [List.getElem?_append_right (by rw [List.length_map]; omega), List.getElem?_replicate] at e2
      split at e2
      · cases e2
        exact .no
      · cases e2
section
variable {P : Program} {w : World} {K : PySem.W.Frag} {mg : Str → Option Value} {base : Heap}
theorem fn_d {x qual : Str} {st : Stmt} {f : Addr} {fd : FuncData} {N ps : List Str} {k : Nat} {B : Bx} {S : FD} {t : DTS} (F : Fun K x qual st f fd) (Sc : FnScope N ps (defScope st)) (len : ∀ ds Q, S ds Q → ds.length = ps.length)
    (hbody : ∀ (cdv : Value) (A : Around) (outer : List Env) (s : Shared) (H : Hp) (E : XK), Room k (A.deeper (envOfC qual (defScope st) s.heap.objs.size f cdv)) → PSsD (cxOf CX0 P w K mg base N qual (defScope st) f cdv A outer s H E).nox B (defBody st) t)
    (vc : ∀ ds Q, S ds Q → t { nx := fun _ => Q .non, rt := Q } (startD N.length ds)) : FnOk P w K mg base CX0 (k + 1) f fd ps (spD K B S) := by
  refine F.ok Sc (fun vs H Q E h => ?_) (fun cdv A outer s H vs Q E hr h => ⟨_, hbody cdv A outer s H E hr, ?_⟩)
  · obtain ⟨G, ds, R, j, hd, hs, _⟩ := h
    rw [hd.len]
    exact len ds R hs
  · obtain ⟨G, ds, R, j, hd, hs, kk⟩ := h
    refine ⟨G, H, G, startD N.length ds, _, Gr.refl j, start_ok hd, vc ds R hs, ⟨?_, ?_, ?_, ?_, ?_⟩⟩
    · exact fun σ δ G2 H2 q g _ s2 => kk .non .non G2 H2 q g .non
    · exact fun σ δ G2 H2 q g _ s2 => q.elim
    · exact fun σ δ G2 H2 q g _ s2 => q.elim
    · exact fun d v G2 H2 q g _ hd => kk d v G2 H2 q g hd
    · exact fun o v f G2 H2 q => q.elim
end
end DL
namespace DL
open PySem PySem.Spec PyProof.Rows L2 Evl
mutual
def D.py : D → PyData
  | .non => .none
  | .bl b => .bool b
  | .int i => .int i
  | .str x => .str x
  | .lst xs => .list (pyL xs)
  | .tup xs => .tuple (pyL xs)
  | .dic _ => .none
  | .obj _ _ => .none
  | .bag => .none
  | .ktup _ => .none
def pyL : List D → List PyData
  | [] => []
  | x :: xs => D.py x :: pyL xs
end
mutual
def D.fine : D → Bool
  | .non => true
  | .bl _ => true
  | .int i => decide (i.natAbs.log2 < 1920)
  | .str x => PyData.strOk x
  | .lst xs => fineL xs
  | .tup xs => fineL xs
  | .dic _ => false
  | .obj _ _ => false
  | .bag => false
  | .ktup _ => false
def fineL : List D → Bool
  | [] => true
  | x :: xs => D.fine x && fineL xs
end
mutual
def D.dep : D → Nat
  | .lst xs => depL xs + 1
  | .tup xs => depL xs + 1
  | _ => 0
def depL : List D → Nat
  | [] => 0
  | x :: xs => max (D.dep x) (depL xs)
end
mutual
def D.wt : D → Nat
  | .non => 4
  | .bl _ => 5
  | .int _ => 2000
  | .str x => 10 * x.length + 2
  | .lst xs => wtL xs + 4
  | .tup xs => wtL xs + 4
  | _ => 0
def wtL : List D → Nat
  | [] => 0
  | x :: xs => D.wt x + 2 + wtL xs
end
mutual
theorem py_lay : ∀ d : D, d.fine = true → d.py.canLay0 = true
  | .non, _ => rfl
  | .bl _, _ => rfl
  | .int _, _ => rfl
  | .str x, h => by simpa [D.py, PyData.canLay0, D.fine] using h
  | .lst xs, h => by
    rw [D.py, PyData.canLay0]
    exact pyL_lay xs (by simpa [D.fine] using h)
  | .tup xs, h => by
    rw [D.py, PyData.canLay0]
    exact pyL_lay xs (by simpa [D.fine] using h)
  | .dic _, h => by simp [D.fine] at h
  | .obj _ _, h => by simp [D.fine] at h
  | .bag, h => by simp [D.fine] at h
  | .ktup _, h => by simp [D.fine] at h
theorem pyL_lay : ∀ ds : List D, fineL ds = true → PyData.canLayAll0 (pyL ds) = true
  | [], _ => rfl
  | x :: xs, h => by
    have h' : x.fine = true ∧ fineL xs = true := by simpa [fineL] using h
    rw [pyL, PyData.canLayAll0, py_lay x h'.1, pyL_lay xs h'.2]
    rfl
end
mutual
theorem py_show : ∀ d : D, d.fine = true → d.py.showable = true
  | .non, _ => rfl
  | .bl _, _ => rfl
  | .int i, h => by simpa [D.py, PyData.showable, D.fine] using h
  | .str x, h => rfl
  | .lst xs, h => by
    rw [D.py, PyData.showable]
    exact pyL_show xs (by simpa [D.fine] using h)
  | .tup xs, h => by
    rw [D.py, PyData.showable]
    exact pyL_show xs (by simpa [D.fine] using h)
  | .dic _, h => by simp [D.fine] at h
  | .obj _ _, h => by simp [D.fine] at h
  | .bag, h => by simp [D.fine] at h
  | .ktup _, h => by simp [D.fine] at h
theorem pyL_show : ∀ ds : List D, fineL ds = true → PyData.showableAll (pyL ds) = true
  | [], _ => rfl
  | x :: xs, h => by
    have h' : x.fine = true ∧ fineL xs = true := by simpa [fineL] using h
    rw [pyL, PyData.showableAll, py_show x h'.1, pyL_show xs h'.2]
    rfl
end
mutual
theorem py_dep : ∀ d : D, d.fine = true → d.py.depth ≤ d.dep
  | .non, _ => by simp [D.py, PyData.depth]
  | .bl _, _ => by simp [D.py, PyData.depth]
  | .int _, _ => by simp [D.py, PyData.depth]
  | .str x, h => by simp [D.py, PyData.depth]
  | .lst xs, h => by
    have := pyL_dep xs (by simpa [D.fine] using h)
    rw [D.py, PyData.depth, D.dep]
    omega
  | .tup xs, h => by
    have := pyL_dep xs (by simpa [D.fine] using h)
    rw [D.py, PyData.depth, D.dep]
    omega
  | .dic _, h => by simp [D.fine] at h
  | .obj _ _, h => by simp [D.fine] at h
  | .bag, h => by simp [D.fine] at h
  | .ktup _, h => by simp [D.fine] at h
theorem pyL_dep : ∀ ds : List D, fineL ds = true → PyData.depthAll (pyL ds) ≤ depL ds
  | [], _ => by simp [pyL, PyData.depthAll]
  | x :: xs, h => by
    have h' : x.fine = true ∧ fineL xs = true := by simpa [fineL] using h
    have h1 := py_dep x h'.1
    have h2 := pyL_dep xs h'.2
    rw [pyL, PyData.depthAll, depL]
    omega
end
theorem textFrom_up : ∀ (ts : List Str) (k : Nat) (acc : Str), (textFrom k acc ts).length ≤ acc.length + (ts.map fun t => t.length + 2).sum
  | [], k, acc => by simp [textFrom]
  | t :: r, k, acc => by
    have ih := textFrom_up r (k + 1) (acc ++ (if k > 0 then ", " else "" : String) ++ t)
    rw [textFrom]
    have e : (acc ++ (if k > 0 then ", " else "" : String) ++ t).length ≤ acc.length + 2 + t.length := by
      rw [strLen_append, strLen_append]
      by_cases hk : k > 0
      · rw [if_pos hk]
        have e2 : ((", " : String) : Str).length = 2 := rfl
        omega
      · rw [if_neg hk]
        have e2 : (("" : String) : Str).length = 0 := rfl
        omega
    rw [List.map_cons, List.sum_cons]
    omega
theorem listText_up (ts : List Str) : (listText ts).length ≤ (ts.map fun t => t.length + 2).sum + 2 := by
  unfold listText
  rw [strLen_append]
  have h := textFrom_up ts 0 "["
  have e1 : (("[" : String) : Str).length = 1 := rfl
  have e2 : (("]" : String) : Str).length = 1 := rfl
  omega
theorem join_up : ∀ ts : List Str, (Str.join ", " ts).length ≤ (ts.map fun t => t.length + 2).sum
  | [] => by simp [Str.join]; rfl
  | [x] => by
    show x.length ≤ _
    simp
  | x :: y :: r => by
    have ih := join_up (y :: r)
    show (x ++ ", " ++ Str.join ", " (y :: r)).length ≤ _
    rw [strLen_append, strLen_append, List.map_cons, List.sum_cons]
    have e2 : ((", " : String) : Str).length = 2 := rfl
    omega
theorem tupleText_up (ts : List Str) : (tupleText ts).length ≤ (ts.map fun t => t.length + 2).sum + 3 := by
  unfold tupleText
  rw [strLen_append, strLen_append]
  have h := join_up ts
  have e1 : (("(" : String) : Str).length = 1 := rfl
  by_cases hk : (ts.length == 1) = true
  · rw [if_pos hk]
    have e2 : ((",)" : String) : Str).length = 2 := rfl
    omega
  · rw [if_neg hk]
    have e2 : ((")" : String) : Str).length = 1 := rfl
    omega
theorem strOk_lt {x : Str} (h : PyData.strOk x = true) : ∀ c ∈ x.cps.toList, c < 16 ^ 8 := fun c hc => by
  unfold PyData.strOk at h
  rw [← Array.all_toList, List.all_eq_true] at h
  have := of_decide_eq_true (h c hc)
  omega
theorem int_text_len {i : Int} (h : i.natAbs.log2 < 1920) : (Str.ofString (toString i)).length ≤ 2000 := by
  rw [PySem.ofString_length]
  have := int_text_length_le (by decide) h
  omega
mutual
theorem py_len : ∀ d : D, d.fine = true → d.py.shown.length ≤ d.wt
  | .non, _ => by decide +kernel
  | .bl b, _ => by cases b <;> decide +kernel
  | .int i, h => by
    rw [D.py, PyData.shown, D.wt]
    exact int_text_len (by simpa [D.fine] using h)
  | .str x, h => by
    rw [D.py, PyData.shown, D.wt]
    exact StrLaws.reprText_len x (strOk_lt (by simpa [D.fine] using h))
  | .lst xs, h => by
    have := pyL_len xs (by simpa [D.fine] using h)
    have h2 := listText_up (PyData.shownAll (pyL xs))
    rw [D.py, PyData.shown, D.wt]
    omega
  | .tup xs, h => by
    have := pyL_len xs (by simpa [D.fine] using h)
    have h2 := tupleText_up (PyData.shownAll (pyL xs))
    rw [D.py, PyData.shown, D.wt]
    omega
  | .dic _, h => by simp [D.fine] at h
  | .obj _ _, h => by simp [D.fine] at h
  | .bag, h => by simp [D.fine] at h
  | .ktup _, h => by simp [D.fine] at h
theorem pyL_len : ∀ ds : List D, fineL ds = true → ((PyData.shownAll (pyL ds)).map fun t => t.length + 2).sum ≤ wtL ds
  | [], _ => by simp [pyL, PyData.shownAll]
  | x :: xs, h => by
    have h' : x.fine = true ∧ fineL xs = true := by simpa [fineL] using h
    have h1 := py_len x h'.1
    have h2 := pyL_len xs h'.2
    rw [pyL, PyData.shownAll, wtL, List.map_cons, List.sum_cons]
    omega
end
section
variable {K : PySem.W.Frag} {B : Bx} {G H : Hp}
mutual
theorem dat_dp (e : Ex G H) : ∀ {v : V} {d : D}, Dat K B G v d → d.fine = true → Dp K H v d.py
  | _, _, .non, _ => .non
  | _, _, .bl b, _ => .bl b
  | _, _, .int i, _ => .int i
  | _, _, .str x, _ => .str x
  | _, _, .lst h t, f => by
    rw [D.py]
    exact .lst (sq_of (e _ _ h)) (dats_dp e t (by simpa [D.fine] using f))
  | _, _, .tup h t, f => by
    rw [D.py]
    exact .tup (tx e h) (dats_dp e t (by simpa [D.fine] using f))
  | _, _, .dK h t, f => by simp [D.fine] at f
  | _, _, .dT h t, f => by simp [D.fine] at f
  | _, _, .ktup h t, f => by simp [D.fine] at f
  | _, _, .bag, f => by simp [D.fine] at f
  | _, _, .obj _ _ _, f => by simp [D.fine] at f
theorem dats_dp (e : Ex G H) : ∀ {v : List V} {d : List D}, Dats K B G v d → fineL d = true → DpAll K H v (pyL d)
  | _, _, .nil, _ => .nil
  | _, _, .cons h t, f => by
    have f' := (Bool.and_eq_true_iff.mp (show (D.fine _ && fineL _) = true by rw [fineL] at f; exact f))
    rw [pyL]
    exact .cons (dat_dp e h f'.1) (dats_dp e t f'.2)
end
end
def eqb (x y : D) : Bool := PyData.eqv x.py y.py
theorem eqb_refl {x : D} (h : x.fine = true) : eqb x x = true := SeqAt.eqv_refl _ (py_lay x h)
def plain (x : D) : Bool := x.fine && decide (x.dep ≤ 64)
theorem plain_shaped {x : D} (h : plain x = true) : SeqAt.shaped x.py = true := by
  have h' := Bool.and_eq_true_iff.mp h
  have h2 := py_dep x h'.1
  have h3 : x.dep ≤ 64 := of_decide_eq_true h'.2
  unfold SeqAt.shaped
  rw [py_lay x h'.1, decide_eq_true (by omega : x.py.depth ≤ 64)]
  rfl
def oEq : O2 := fun x y Q => match x, y with
  | .str a, .str b => Q (.bl (decide (a = b)))
  | .int a, .int b => Q (.bl (decide (a = b)))
  | .bl a, .bl b => Q (.bl (a == b))
  | x, y => (plain x = true ∧ plain y = true) ∧ Q (.bl (eqb x y))
def oNe : O2 := fun x y Q => match x, y with
  | .str a, .str b => Q (.bl (!decide (a = b)))
  | .int a, .int b => Q (.bl (!decide (a = b)))
  | .bl a, .bl b => Q (.bl (!(a == b)))
  | x, y => (plain x = true ∧ plain y = true) ∧ Q (.bl (!eqb x y))
theorem dec_str_v {a b : Str} : decide (V.str a = V.str b) = decide (a = b) := by
  by_cases e : a = b
  · subst e; simp
  · rw [decide_eq_false e, decide_eq_false fun z => e (V.str.inj z)]
theorem dec_int_v {a b : Int} : decide (V.int a = V.int b) = decide (a = b) := by
  by_cases e : a = b
  · subst e; simp
  · rw [decide_eq_false e, decide_eq_false fun z => e (V.int.inj z)]
theorem op_eq_d {X : Cx} {B : Bx} (hu : X.A.units + 64 < cLine) : OpR X (compareOp .Eq) (rLift X.K B oEq) := by
  intro pins s σ H x y v u P I rx ry h
  obtain ⟨G, dx, dy, Q, j, hx, hy, hq, k⟩ := h
  have gen : (plain dx = true ∧ plain dy = true) ∧ Q (.bl (eqb dx dy)) → wpAny (model X.prog X.w) X.A (compareOp .Eq v u) (EP X pins σ P) X.xe s := fun ⟨⟨px, py⟩, q⟩ =>
    op_eqD hu pins s σ H x y v u P I rx ry ⟨dx.py, dy.py, dat_dp j.ex hx (Bool.and_eq_true_iff.mp px).1, dat_dp j.ex hy (Bool.and_eq_true_iff.mp py).1, plain_shaped px, plain_shaped py, k _ _ G H q (Gr.refl j) (.bl _)⟩
  cases hx with
  | str a =>
    cases hy with
    | str b =>
      refine op_eq pins s σ H _ _ v u P I rx ry ⟨rfl, ?_⟩
      rw [dec_str_v]
      exact k _ _ G H hq (Gr.refl j) (.bl _)
    | _ => exact gen hq
  | int a =>
    cases hy with
    | int b =>
      refine op_eq pins s σ H _ _ v u P I rx ry ⟨rfl, ?_⟩
      rw [dec_int_v]
      exact k _ _ G H hq (Gr.refl j) (.bl _)
    | _ => exact gen hq
  | bl a =>
    cases hy with
    | bl b =>
      refine op_eq pins s σ H _ _ v u P I rx ry ⟨rfl, ?_⟩
      rw [dec_bl]
      exact k _ _ G H hq (Gr.refl j) (.bl _)
    | _ => exact gen hq
  | _ => exact gen hq
theorem op_ne_d {X : Cx} {B : Bx} (hu : X.A.units + 64 < cLine) : OpR X (compareOp .NotEq) (rLift X.K B oNe) := by
  intro pins s σ H x y v u P I rx ry h
  obtain ⟨G, dx, dy, Q, j, hx, hy, hq, k⟩ := h
  have gen : (plain dx = true ∧ plain dy = true) ∧ Q (.bl (!eqb dx dy)) → wpAny (model X.prog X.w) X.A (compareOp .NotEq v u) (EP X pins σ P) X.xe s := fun ⟨⟨px, py⟩, q⟩ =>
    op_neD hu pins s σ H x y v u P I rx ry ⟨dx.py, dy.py, dat_dp j.ex hx (Bool.and_eq_true_iff.mp px).1, dat_dp j.ex hy (Bool.and_eq_true_iff.mp py).1, plain_shaped px, plain_shaped py, k _ _ G H q (Gr.refl j) (.bl _)⟩
  cases hx with
  | str a =>
    cases hy with
    | str b =>
      refine op_ne pins s σ H _ _ v u P I rx ry ⟨rfl, ?_⟩
      rw [dec_str_v]
      exact k _ _ G H hq (Gr.refl j) (.bl _)
    | _ => exact gen hq
  | int a =>
    cases hy with
    | int b =>
      refine op_ne pins s σ H _ _ v u P I rx ry ⟨rfl, ?_⟩
      rw [dec_int_v]
      exact k _ _ G H hq (Gr.refl j) (.bl _)
    | _ => exact gen hq
  | bl a =>
    cases hy with
    | bl b =>
      refine op_ne pins s σ H _ _ v u P I rx ry ⟨rfl, ?_⟩
      rw [dec_bl]
      exact k _ _ G H hq (Gr.refl j) (.bl _)
    | _ => exact gen hq
  | _ => exact gen hq
def cRepr : FD := fun ds Q => match ds with
  | [d] => (plain d = true ∧ d.wt ≤ 16000000) ∧ Q (.str d.py.shown)
  | _ => False
theorem call_repr_d {X : Cx} {B : Bx} (hg : X.A.guards = some []) (hu : X.A.units + 70 < cLine) : CallR X (.builtin "repr") (cLift X.K B cRepr) := by
  intro pins s σ H vs us P I rv h
  obtain ⟨G, ds, Q, j, hd, hq, k⟩ := h
  cases hd with
  | nil => exact hq.elim
  | cons h1 h2 =>
    cases h2 with
    | cons _ _ => exact hq.elim
    | nil =>
      rename_i v d
      obtain ⟨⟨hp, hw⟩, hq⟩ := hq
      have hf := (Bool.and_eq_true_iff.mp hp).1
      have hdep : d.dep ≤ 64 := of_decide_eq_true (Bool.and_eq_true_iff.mp hp).2
      have hdep2 := py_dep d hf
      have hz : d.py.shown.length ≤ sizeLine := Nat.le_trans (py_len d hf) (Nat.le_trans hw (by decide))
      have kk := k _ _ G H hq (Gr.refl j) (.str _)
      cases rv with
      | cons r1 r2 =>
        cases r2
        cases h1 with
        | non =>
          cases r1
          exact PySem.P.repr_of_none ⟨.str _, H, I.tok _, ⟨_, rfl⟩, kk⟩
        | bl b =>
          cases r1
          refine PySem.P.repr_of_bool ⟨.str _, H, I.tok _, ⟨_, rfl⟩, ?_⟩
          rw [D.py, PyData.shown] at kk
          cases b <;> exact kk
        | int i =>
          obtain ⟨t, rfl⟩ := r1
          exact PySem.P.repr_of_int (by simpa [D.fine] using hf) ⟨.str _, H, I.tok _, ⟨_, rfl⟩, kk⟩
        | str x =>
          obtain ⟨t, rfl⟩ := r1
          exact PySem.P.repr_of_str ⟨.str _, H, I.tok _, ⟨_, rfl⟩, kk⟩ hz
        | lst a1 a2 =>
          obtain ⟨as, hr⟩ := Dp.reads I _ _ _ (dat_dp j.ex (.lst a1 a2) hf) r1
          cases r1
          exact repr_of_reads' hr (py_show _ hf) (PyData.noDict_hsm (PyData.hasDict_of_canLay _ (py_lay _ hf))) hg (by omega) (fun _ _ e => e) (fun h' u tk hk => ⟨.str _, H, I.kept hk, ⟨_, rfl⟩, kk⟩) hz
        | tup a1 a2 =>
          obtain ⟨as, hr⟩ := Dp.reads I _ _ _ (dat_dp j.ex (.tup a1 a2) hf) r1
          cases r1
          exact repr_of_reads' hr (py_show _ hf) (PyData.noDict_hsm (PyData.hasDict_of_canLay _ (py_lay _ hf))) hg (by omega) (fun _ _ e => e) (fun h' u tk hk => ⟨.str _, H, I.kept hk, ⟨_, rfl⟩, kk⟩) hz
        | _ => simp [D.fine] at hf
end DL
namespace DL
open PySem PySem.Spec PyProof.Rows L2 Evl
structure FnG (P : Program) (w : World) (K : PySem.W.Frag) (mg : Str → Option Value) (base : Heap) (CX : CXT) (k : Nat) (f : Addr) (fd : FuncData) (ps : List Str) (sp : Sp) : Prop where
  len : ∀ vs H Q E, sp vs H Q E → vs.length = ps.length
  go : ∀ (A : Around) (fr : List Env) (s : Shared) (H : Hp) (args : Args) (us : List Value) (vs : List V) (Q : VK) (E : XK), A.guards = some [] → Room k A → Env0 P w K mg base A fr s H → BindsTo s fd args (ps.zip us) → Vals vs us → sp vs H Q E →
    codeAny (model P w) A (.call (.ref f) args) (CR CX fr P w H s Q E) s
section
variable {P : Program} {w : World} {K : PySem.W.Frag} {mg : Str → Option Value} {base : Heap} {CX : CXT} {f : Addr} {fd : FuncData} {ps : List Str} {sp : Sp} {k : Nat}
theorem FnG.mono {j : Nat} (F : FnG P w K mg base CX j f fd ps sp) (h : j ≤ k) : FnG P w K mg base CX k f fd ps sp :=
  ⟨F.len, fun A fr s H args us vs Q E hg hr => F.go A fr s H args us vs Q E hg (hr.mono h)⟩
theorem fng_of {x qual : Str} {st : Stmt} {N : List Str} (F : Fun K x qual st f fd) (S : FnScope N ps (defScope st)) (len : ∀ vs H Q E, sp vs H Q E → vs.length = ps.length)
    (hbody : ∀ (cdv : Value) (A : Around) (fr : List Env) (s : Shared) (H : Hp) (vs : List V) (Q : VK) (E : XK), A.guards = some [] → Room k (A.deeper (envOfC qual (defScope st) s.heap.objs.size f cdv)) → sp vs H Q E →
      ∃ t, PSs (cxOf CX P w K mg base N qual (defScope st) f cdv A fr s H E) (defBody st) t ∧ t { nx := fun _ H' => Q .non H', rt := Q } (L2.start N vs) H) : FnG P w K mg base CX (k + 1) f fd ps sp := by
  obtain ⟨oc, od, kV, doc, pm, an, cdv, ct, osl, rfl, lk, hcd⟩ := F.ex
  refine ⟨len, fun A fr s H args us vs Q E hgd room env bnd rel hsp => ?_⟩
  have inK : K.In s.heap := env.mod.kin.keeps fun b o z => (env.bs b o z).1
  have noLim : s.heap.NoLimit := env.mod.nolimit.keeps fun b o z => (env.bs b o z).1
  refine codeAny_call_function room.depth (inK _ _ lk) rfl S.co S.gen rfl (PySem.W.codeRec_of inK hcd) (bnd _ _ _ _ ?_)
  refine wpAny_newFunctionEnv_cells S.kind (fun ⟨n, v⟩ hy => (S.par n (List.of_mem_zip hy).1).elim .inl fun z => .inr ⟨z, PySem.W.cellsFrom_some _ _ _ (.inl z)⟩) fun _ hEnv s1 born => ?_
  subst hEnv
  refine ⟨noLim.keeps born.toInCall.keep, codeAny_func ?_⟩
  obtain ⟨t, ht, hw⟩ := hbody cdv A fr s H vs Q E hgd (room.deeper _) hsp
  have I := inv_start (CX := CX) (E := E) S room.hd env (len _ _ _ _ hsp) rel born
  refine wpAny_mono (ht.run [] s1 _ H _ I hw) (fun fl s' hs => ?_) fun _ _ z => z
  cases fl with
  | next =>
    obtain ⟨σ', H', J, q⟩ := hs
    exact ⟨.non, H', J.os, J.bare, J.base, J.hok, rfl, q⟩
  | ret u =>
    obtain ⟨v, σ', H', J, rv, q⟩ := hs
    exact ⟨v, H', J.os, J.bare, J.base, J.hok, rv, q⟩
  | brk => exact hs.elim fun _ z => z.elim fun _ y => y.2.elim
  | cont => exact hs.elim fun _ z => z.elim fun _ y => y.2.elim
/-- the promise over data -/
theorem fng_d {x qual : Str} {st : Stmt} {N : List Str} {B : Bx} {S : FD} {t : DTS} (F : Fun K x qual st f fd) (Sc : FnScope N ps (defScope st)) (len : ∀ ds Q, S ds Q → ds.length = ps.length)
    (hbody : ∀ (cdv : Value) (A : Around) (fr : List Env) (s : Shared) (H : Hp) (E : XK), A.guards = some [] → Room k (A.deeper (envOfC qual (defScope st) s.heap.objs.size f cdv)) → PSsD (cxOf CX0 P w K mg base N qual (defScope st) f cdv A fr s H E).nox B (defBody st) t)
    (vc : ∀ ds Q, S ds Q → t { nx := fun _ => Q .non, rt := Q } (startD N.length ds)) : FnG P w K mg base CX0 (k + 1) f fd ps (spD K B S) := by
  refine fng_of F Sc (fun vs H Q E h => ?_) (fun cdv A fr s H vs Q E hg hr h => ⟨_, (hbody cdv A fr s H E hg hr).nox, ?_⟩)
  · obtain ⟨G, ds, R, j, hd, hs, _⟩ := h
    rw [hd.len]
    exact len ds R hs
  · obtain ⟨G, ds, R, j, hd, hs, kk⟩ := h
    refine ⟨G, H, G, startD N.length ds, _, Gr.refl j, start_ok hd, vc ds R hs, ⟨?_, ?_, ?_, ?_, ?_⟩⟩
    · exact fun σ δ G2 H2 q g _ s2 => kk .non .non G2 H2 q g .non
    · exact fun σ δ G2 H2 q g _ s2 => q.elim
    · exact fun σ δ G2 H2 q g _ s2 => q.elim
    · exact fun d v G2 H2 q g _ hd => kk d v G2 H2 q g hd
    · exact fun o v f G2 H2 q => q.elim
end
section
variable {X : Cx} {B : Bx} {CX : CXT} {k : Nat} {f : Addr} {fd : FuncData} {ps : List Str} {S : FD} {x : Str} {E : XK} {e : Expr} {es : List Expr} {pos fp : Pos}
theorem runG {sp : Sp} {pins : List (Addr × Obj)} {σ : L2.St} {H : Hp} {s : Shared} {Q : VK} {us : List Value} {vs : List V} (F : FnG X.prog X.w X.K X.mg X.base CX k f fd ps sp) (hgd : X.A.guards = some []) (hr : Room k X.A) (hb : Binds X.K fd ps []) (hx : Passes CX X E)
    (I : Inv X pins σ H s) (r : Vals vs us) (h : sp vs H Q E) : wpAny (model X.prog X.w) X.A (call (.ref f) us) (EP X pins σ Q) X.xe s := by
  have hl : (us ++ []).length = ps.length := by rw [List.append_nil, ← r.length]; exact F.len _ _ _ _ h
  have hbb := hb s us I.kIn hl
  rw [List.append_nil] at hbb
  refine wpAny_call (codeAny_mono (F.go X.A X.stack s H ⟨us, []⟩ us vs Q E hgd hr I.env0 hbb r h) fun res s' hq => ?_)
  match res, hq with
  | .error err, hq => exact hx pins σ H s err s' I hq
  | .ok (.ret u), hq => exact I.after hq
theorem pd_callG {ra : DA} (F : FnG X.prog X.w X.K X.mg X.base CX k f fd ps (spD X.K B S)) (hgd : X.A.guards = some []) (hr : Room k X.A) (hg : Gl X x) (hm : X.mg x = some (.ref f)) (hk : PySem.W.keepIn X.K (.ref f) = true)
    (hb : Binds X.K fd ps []) (hx : Passes CX X E) (ha : PAD X B (e :: es) ra) (hd : (x == ("__debug__" : Str)) = false := by decide) (he : starEach (e :: es) X.env = (false, eval e X.env) :: starEach es X.env := by rfl) (hpl : (backTo pos (starEach es X.env)).any (·.1) = false := by rfl) :
    PD X B (.Call (.Name x fp) (e :: es) [] pos) (dCall S ra) :=
  ⟨fun pins s σ H Q I q => wpAny_Call_Name_kw (ld_glob I hg hm (PySem.W.callWith_K (h₀ := X.base) I.ok.mod.kin hk (thn (ha.run pos pins s σ H _ I (liftC q)) fun us s1 ⟨vs, H1, I1, r, q1⟩ => ⟨I1.kIn, runG (E := E) F hgd hr hb hx I1 r q1⟩) he hpl) hd)⟩
end
theorem law_run {P : Program} {w : World} {K : PySem.W.Frag} {mg mb : Str → Option Value} {k : Nat} {fa a : Addr} {fd : FuncData} {x : Str} {sp : Sp} {s1 : Shared} {vs : List Value} {ns : List Int}
    (KX : K.In s1.heap) (hns : s1.heap.Ns mainGlobals mg) (hb : s1.heap.Ns builtinsNs mb) (hbb : ∀ x : Str, x ≠ "__name__" → mb x = bootBuiltins x) (hlim : s1.heap.NoLimit) (hgens : s1.gens = #[])
    (ha : s1.heap.get? a = some { cls := .type "list", data := .seq vs.toArray }) (hi : IntsAre vs ns) (hl : ns.length ≤ sizeLine) (room : Room k callerA)
    (F : ∀ base : Heap, K.In base → base.Ns mainGlobals mg → FnG P w K mg base CX0 k fa fd [x] sp) (hbind : ∀ (s : Shared) (u : Value), BindsTo s fd ⟨[u], []⟩ [(x, u)])
    (hsp : ∀ H : Hp, SqL K H a (ns.map V.int) → sp [.ref a] H (fun v _ => v = .bl true) fun _ _ _ => False) :
    codeAny (model P w) callerA (.call (.ref fa) ⟨[.ref a], []⟩) (fun r s' => r = .ok (.ret (.bool true)) ∧ OldK s1.heap s'.heap ∧ s'.os = s1.os ∧ AllBare s'.gens) s1 := by
  let o : Obj := { cls := .type "list", data := .seq vs.toArray }
  have rel := vals_of_ints hi
  -- the script is locked, unless it is one of the module's own things
  obtain ⟨H, only, seen, held⟩ : ∃ H : Hp, (∀ b, H b = none ∨ (b = a ∧ K.lookup a = none ∧ H b = some (.frz o (.lst (ns.map V.int))))) ∧ SqL K H a (ns.map V.int) ∧ HOk P w H s1.heap := by
    cases hk : K.lookup a with
    | some u =>
      have z := KX a u hk
      rw [ha] at z
      cases z
      exact ⟨fun _ => none, fun _ => .inl rfl, .inr ⟨_, vs.toArray, _, hk, rfl, rfl, rfl, by rw [List.size_toArray, hi.length]; exact hl, rel⟩, fun _ _ z => nomatch z⟩
    | none =>
      refine ⟨upd (fun _ => none) a (.frz o (.lst (ns.map V.int))), fun b => ?_, .inl (.inr ⟨o, upd_same⟩), fun b u z => ?_⟩
      · by_cases hba : b = a
        · subst hba; exact .inr ⟨rfl, rfl, upd_same⟩
        · exact .inl (upd_ne hba)
      · by_cases hba : b = a
        · subst hba
          rw [upd_same] at z
          cases z
          exact ⟨ha, by rw [List.length_map]; exact hl, vs, _, rel, ha⟩
        · rw [upd_ne hba] at z; cases z
  have free : ∀ {b : Addr} {u : Obj}, s1.heap.get? b = some u → (∃ es ep, u.data = .dict es ep) ∨ K.lookup b = some u → H b = none := fun {b u} e z => by
    rcases only b with q | ⟨rfl, hk, _⟩
    · exact q
    · rcases z with ⟨es, ep, z⟩ | z
      · rw [ha] at e; cases e; cases z
      · rw [hk] at z; cases z
  have ns_ : ∀ {b : Addr} {m : Str → Option Value}, s1.heap.Ns b m → (hidT s1.heap H).Ns b m := fun {b m} ⟨u, es, ep, e, d, r⟩ => ⟨u, es, ep, hidT_get e (free e (.inl ⟨es, ep, d⟩)), d, r⟩
  have kin : K.In (hidT s1.heap H) := fun b u e => hidT_get (KX b u e) (free (KX b u e) (.inr e))
  have md : Mod K mg (hidT s1.heap H) := ⟨kin, ns_ hns, ⟨mb, ns_ hb, hbb⟩, hlim.elim fun m z => ⟨m, ns_ z.1, z.2⟩⟩
  have env : Env0 P w K mg (hidT s1.heap H) callerA [] s1 H := ⟨rfl, md, fun _ _ e => of_hidT e, Nat.le_of_eq (hidT_size _ _), trivial, (fun b z => nomatch (show b ∈ ([] : List Addr) from z)), held, .of_eq hgens⟩
  refine codeAny_mono ((F _ kin (ns_ hns)).go callerA [] s1 H ⟨[.ref a], []⟩ [.ref a] [.ref a] _ _ rfl room env (hbind s1 (.ref a)) (.cons rfl .nil) (hsp H seen)) fun r s' h => ?_
  match r, h with
  | .error e, h => exact h.elim
  | .ok (.ret u), h =>
    obtain ⟨v, H', os, bare, un, held', r', q⟩ := h
    have q' : v = .bl true := q
    subst q'
    obtain rfl : u = Value.bool true := r'
    refine ⟨rfl, OldK.of_keep fun b ob e => ?_, os, bare⟩
    rcases only b with q | ⟨rfl, _, q⟩
    · exact un.keep b ob e q (fun z => nomatch (show b ∈ ([] : List Addr) from z)) (fun z => nomatch z)
    · have z2 := un.frzs b o _ q
      rw [ha] at e
      cases e
      exact (held' b _ z2).1
theorem walk_g {l : PySem.W.OpenLaw} {n k : Nat} {q : Program} {loose : List Str} {XP : (Str → Option Value) → Heap → Prop} {YP : World → Heap → Prop} {d : DefRec} {K : Params → PySem.W.Frag} {sp : World → Sp} {x : Str}
    (hn : l.most = some n) (hn2 : n ≤ sizeLine) (hdf : d.params.defaults = []) (hr : Room k callerA) (hY : ∀ (w : World) (h : Heap), YP w h → (K w.params).In h)
    (F : ∀ (w : World) (mg : Str → Option Value) (fa : Addr) (h : Heap), (K w.params).In h → h.Ns mainGlobals mg → mg d.name = some (.ref fa) →
      ∃ fd : FuncData, (∀ (s : Shared) (u : Value), BindsTo s fd ⟨[u], []⟩ [(x, u)]) ∧ ∀ base : Heap, (K w.params).In base → base.Ns mainGlobals mg → FnG l.prog w (K w.params) mg base CX0 k fa fd [x] (sp w))
    (hsp : ∀ (w : World) (H : Hp) (a : Addr) (ns : List Int), ns.length ≤ n → (∀ z ∈ ns, Builtin.Int.intBits z ≤ 1048576) → SqL (K w.params) H a (ns.map V.int) → sp w [.ref a] H (fun v _ => v = .bl true) fun _ _ _ => False) :
    PySem.W.WalkO q loose XP YP l.row.toRowW d [] (fun f vs => PySem.call f vs) :=
  Att.attach_callB hn hdf fun w _ s1 mg mb fa _ _ _ _ a vs ns G Y _ _ _ hmg hobj hints hlen hbits hg => by
    have KX := hY w _ Y
    obtain ⟨fd, hb, hF⟩ := F w mg fa _ KX G.T.g hmg
    exact law_run KX G.T.g G.T.b G.T.builtins G.T.nolimit hg hobj hints (Nat.le_trans hlen hn2) hr hF hb fun H hS => hsp w H a ns hlen hbits hS
end DL
namespace DL
open PySem PySem.Spec PyProof.Rows L2 Evl
section
variable {X : Cx} {B : Bx}
def oI (f : Int → Int → D) : O2 := fun x y Q => match x, y with
  | .int i, .int j => Q (f i j)
  | _, _ => False
def oIc (c : Int → Int → Prop) (f : Int → Int → D) : O2 := fun x y Q => match x, y with
  | .int i, .int j => c i j ∧ Q (f i j)
  | _, _ => False
theorem op_int {g : Value → Value → Sem Value} {f : Int → Int → V} {f' : Int → Int → D} (h : OpR X g (rI0 f)) (hf : ∀ G i j, Dat X.K B G (f i j) (f' i j)) : OpR X g (rLift X.K B (oI f')) := by
  intro pins s σ H x y v u P I rx ry q
  obtain ⟨G, dx, dy, Q, j, hx, hy, hq, k⟩ := q
  cases hx with
  | int a =>
    cases hy with
    | int b => exact h pins s σ H _ _ v u P I rx ry ⟨a, b, rfl, rfl, k _ _ G H hq (Gr.refl j) (hf G a b)⟩
    | _ => exact hq.elim
  | _ => exact hq.elim
theorem op_intc {g : Value → Value → Sem Value} {c : Int → Int → Prop} {f : Int → Int → V} {f' : Int → Int → D} (h : OpR X g (rI c f)) (hf : ∀ G i j, Dat X.K B G (f i j) (f' i j)) : OpR X g (rLift X.K B (oIc c f')) := by
  intro pins s σ H x y v u P I rx ry q
  obtain ⟨G, dx, dy, Q, j, hx, hy, hq, k⟩ := q
  cases hx with
  | int a =>
    cases hy with
    | int b => exact h pins s σ H _ _ v u P I rx ry ⟨a, b, rfl, rfl, hq.1, k _ _ G H hq.2 (Gr.refl j) (hf G a b)⟩
    | _ => exact hq.elim
  | _ => exact hq.elim
def oSub : O2 := oI fun i j => .int (i - j)
def oGt : O2 := oI fun i j => .bl (decide (j < i))
def oGe : O2 := oI fun i j => .bl (decide (j ≤ i))
theorem op_sub_d : OpR X (binaryOp .Sub) (rLift X.K B oSub) := op_int op_sub fun _ _ _ => .int _
theorem op_gt_d : OpR X (compareOp .Gt) (rLift X.K B oGt) := op_int op_gt fun _ _ _ => .bl _
theorem op_ge_d : OpR X (compareOp .GtE) (rLift X.K B oGe) := op_int op_ge fun _ _ _ => .bl _
def oNeg : O1 := fun x Q => match x with
  | .int i => Q (.int (-i))
  | _ => False
theorem un_neg_d : UnR X (unaryOp .USub) (rLift1 X.K B oNeg) := by
  intro pins s σ H x v P I rx q
  obtain ⟨G, dx, Q, j, hx, hq, k⟩ := q
  cases hx with
  | int a => exact un_neg pins s σ H _ v P I rx ⟨a, rfl, k _ _ G H hq (Gr.refl j) (.int _)⟩
  | _ => exact hq.elim
def oAdd : O2 := fun x y Q => match x, y with
  | .int i, .int j => Q (.int (i + j))
  | .str a, .str b => a.length + b.length ≤ sizeLine ∧ Q (.str (a ++ b))
  | .lst xs, .lst ys => xs.length + ys.length ≤ sizeLine ∧ Q (.lst (xs ++ ys))
  | .tup xs, .tup ys => (xs ≠ [] ∧ xs.length + ys.length ≤ sizeLine) ∧ Q (.tup (xs ++ ys))
  | _, _ => False
theorem op_add_d : OpR X (binaryOp .Add) (rLift X.K B oAdd) := by
  intro pins s σ H x y v u P I rx ry q
  obtain ⟨G, dx, dy, Q, j, hx, hy, hq, k⟩ := q
  cases hx with
  | int a =>
    cases hy with
    | int b => exact op_add pins s σ H _ _ v u P I rx ry ⟨a, b, rfl, rfl, k _ _ G H hq (Gr.refl j) (.int _)⟩
    | _ => exact hq.elim
  | str a =>
    cases hy with
    | str b => exact op_add_str pins s σ H _ _ v u P I rx ry ⟨a, b, rfl, rfl, hq.1, k _ _ G H hq.2 (Gr.refl j) (.str _)⟩
    | _ => exact hq.elim
  | lst h1 t1 =>
    cases hy with
    | lst h2 t2 =>
      refine op_cat pins s σ H _ _ v u P I rx ry ⟨_, _, _, _, rfl, rfl, j.ex _ _ h1, j.ex _ _ h2, by rw [t1.len, t2.len]; exact hq.1, fun p hp => ?_⟩
      exact k _ _ (upd G p _) _ hq.2 (Gr.new j hp) (.lst upd_same ((t1.append t2).mono (Ex.new (fresh_back j.ex hp))))
    | _ => exact hq.elim
  | tup h1 t1 =>
    cases hy with
    | tup h2 t2 =>
      obtain ⟨⟨n1, n2⟩, hq⟩ := hq
      refine op_catT pins s σ H _ _ v u P I rx ry ⟨_, _, _, _, rfl, rfl, tx j.ex h1, tx j.ex h2, fun z => ?_, by rw [t1.len, t2.len]; exact n2, fun z => ?_, fun _ p hp => ?_⟩
      · subst z; cases t1; exact n1 rfl
      · subst z; cases t2; rw [List.append_nil] at hq; exact k _ _ G H hq (Gr.refl j) (.tup h1 t1)
      · exact k _ _ (upd G p _) _ hq (Gr.new j hp) (.tup upd_same ((t1.append t2).mono (Ex.new (fresh_back j.ex hp))))
    | _ => exact hq.elim
  | _ => exact hq.elim
def repS (x : Str) (n : Nat) : Str := ⟨(List.replicate n x.cps.toList).flatten.toArray⟩
def MulOkD (i j : Int) : Prop := CMul i j ∨ CMulW i j
def oMul : O2 := fun x y Q => match x, y with
  | .int i, .int j => MulOkD i j ∧ Q (.int (i * j))
  | .str a, .int n => (0 ≤ n ∧ n ≤ 100000 ∧ a.length ≤ 100) ∧ Q (.str (repS a n.toNat))
  | .lst xs, .int n => (-(2 ^ 63) ≤ n ∧ n < 2 ^ 63 ∧ xs.length * n.toNat ≤ sizeLine) ∧ Q (.lst (List.replicate n.toNat xs).flatten)
  | _, _ => False
theorem rep_fold (a : Array Nat) : ∀ (n : Nat) (acc : Array Nat), (List.replicate n a).foldl (· ++ ·) acc = acc ++ (List.replicate n a.toList).flatten.toArray
  | 0, acc => by simp
  | n + 1, acc => by
    rw [List.replicate_succ, List.replicate_succ, List.foldl_cons, rep_fold a n, List.flatten_cons, Array.append_assoc]
    congr 1
    apply Array.ext'
    simp
theorem op_mul_d : OpR X (binaryOp .Mult) (rLift X.K B oMul) := by
  intro pins s σ H x y v u P I rx ry q
  obtain ⟨G, dx, dy, Q, j, hx, hy, hq, k⟩ := q
  cases hx with
  | int a =>
    cases hy with
    | int b =>
      have kk := k _ _ G H hq.2 (Gr.refl j) (.int _)
      rcases hq.1 with c | c
      · exact op_mul pins s σ H _ _ v u P I rx ry ⟨a, b, rfl, rfl, c, kk⟩
      · exact op_mulW pins s σ H _ _ v u P I rx ry ⟨a, b, rfl, rfl, c, kk⟩
    | _ => exact hq.elim
  | str a =>
    cases hy with
    | int n =>
      obtain ⟨⟨n0, n1, al⟩, hq⟩ := hq
      obtain ⟨t, rfl⟩ := rx
      obtain ⟨t', rfl⟩ := ry
      have kk := k _ _ G H hq (Gr.refl j) (.str _)
      refine PySem.P.mul_str ?_ (fun h1 h2 => ?_) (fun h1 h2 => ?_) ?_
      · have h2 : ¬ n ≥ 2 ^ 63 := by omega
        have h3 : ¬ n < -(2 ^ 63 : Int) := by omega
        rw [decide_eq_false h2, decide_eq_false h3]; rfl
      · have h4 : (100 : Int) ≤ (2 ^ 63 - 1) / n := (Int.le_ediv_iff_mul_le (by omega)).mpr (by omega)
        omega
      · have h4 : a.length * n.toNat ≤ 100 * 100000 := Nat.mul_le_mul al (by omega)
        unfold Builtin.Str.tooLong
        rw [sizeLine_eq]
        exact decide_eq_false (by omega)
      · by_cases h1 : n < 1
        · rw [if_pos h1]
          have e : n.toNat = 0 := by omega
          rw [e] at kk
          exact ⟨by decide, .str _, H, I.tok _, ⟨_, rfl⟩, kk⟩
        · rw [if_neg h1]
          by_cases h2 : (n == 1 || a.length == 0) = true
          · rw [if_pos h2]
            refine ⟨.str _, H, I, ⟨_, rfl⟩, ?_⟩
            have e : repS a n.toNat = a := by
              rcases Bool.or_eq_true_iff.mp h2 with h3 | h3
              · have e : n.toNat = 1 := by have := eq_of_beq h3; omega
                rw [e]
                simp [repS]
              · have e : a.cps.toList = [] := by
                  have := eq_of_beq h3
                  exact List.eq_nil_of_length_eq_zero (by simpa [Str.length] using this)
                have e2 : a = ⟨#[]⟩ := by
                  cases a with
                  | mk c =>
                    have : c = #[] := by simpa using e
                    rw [this]
                rw [e2]
                simp [repS]
            rw [e] at kk
            exact kk
          · rw [if_neg h2]
            have e : (⟨(List.replicate n.toNat a.cps).foldl (· ++ ·) #[]⟩ : Str) = repS a n.toNat := by
              rw [rep_fold]
              simp [repS]
            rw [e]
            refine ⟨?_, .str _, H, I.tok _, ⟨_, rfl⟩, kk⟩
            have hl : (repS a n.toNat).length = n.toNat * a.length := by
              show (List.replicate n.toNat a.cps.toList).flatten.toArray.size = _
              rw [List.size_toArray, List.length_flatten, List.map_replicate, List.sum_replicate_nat]
              rfl
            have h4 : n.toNat * a.length ≤ 100000 * 100 := Nat.mul_le_mul (by omega) al
            rw [hl, sizeLine_eq]
            omega
    | _ => exact hq.elim
  | lst h1 t1 =>
    cases hy with
    | int n =>
      obtain ⟨⟨n0, n1, n2⟩, hq⟩ := hq
      refine op_rep pins s σ H _ _ v u P I rx ry ⟨_, _, _, rfl, rfl, j.ex _ _ h1, n0, n1, by rw [t1.len]; exact n2, fun p hp => ?_⟩
      exact k _ _ (upd G p _) _ hq (Gr.new j hp) (.lst upd_same ((t1.rep _).mono (Ex.new (fresh_back j.ex hp))))
    | _ => exact hq.elim
  | _ => exact hq.elim
def oIx : O2 := fun x y Q => match x, y with
  | .lst xs, .int i => match atI xs i with
    | some d => Q d
    | none => False
  | .tup xs, .int i => match atI xs i with
    | some d => Q d
    | none => False
  | .str a, .int i => a.length ≤ sizeLine ∧ match atI a.cps.toList i with
    | some c => Q (.str ⟨#[c]⟩)
    | none => False
  | _, _ => False
theorem Dats.at {K : PySem.W.Frag} {G : Hp} {vs : List V} {ds : List D} {i : Int} {d : D} (h : Dats K B G vs ds) (e : atI ds i = some d) : ∃ v, atI vs i = some v ∧ Dat K B G v d := by
  unfold atI at e ⊢
  rw [h.len]
  cases hi : ixN ds.length i with
  | none => rw [hi] at e; cases e
  | some m =>
    rw [hi] at e
    exact h.get e
theorem ix_d : IxR X (rLift X.K B oIx) := by
  intro va sl pins s σ H x y v u P I rx ry q hsub
  obtain ⟨G, dx, dy, Q, j, hx, hy, hq, k⟩ := q
  cases hx with
  | @lst a xs ds h1 t1 =>
    cases hy with
    | int i =>
      have hq : (match atI ds i with | some d => Q d | none => False) := hq
      cases e : atI ds i with
      | none => rw [e] at hq; exact hq.elim
      | some d =>
        rw [e] at hq
        obtain ⟨w, e2, hw⟩ := t1.at e
        exact ix_list va sl pins s σ H _ _ v u P I rx ry ⟨_, _, i, w, rfl, rfl, sq_of (j.ex _ _ h1), e2, k _ _ G H hq (Gr.refl j) hw⟩ hsub
    | _ => exact hq.elim
  | @tup a xs ds h1 t1 =>
    cases hy with
    | int i =>
      have hq : (match atI ds i with | some d => Q d | none => False) := hq
      cases e : atI ds i with
      | none => rw [e] at hq; exact hq.elim
      | some d =>
        rw [e] at hq
        obtain ⟨w, e2, hw⟩ := t1.at e
        exact ix_tup va sl pins s σ H _ _ v u P I rx ry ⟨_, _, i, w, rfl, rfl, tx j.ex h1, e2, k _ _ G H hq (Gr.refl j) hw⟩ hsub
    | _ => exact hq.elim
  | str a =>
    cases hy with
    | int i =>
      have hq : a.length ≤ sizeLine ∧ (match atI a.cps.toList i with | some c => Q (.str ⟨#[c]⟩) | none => False) := hq
      obtain ⟨hz, hq⟩ := hq
      cases e : atI a.cps.toList i with
      | none => rw [e] at hq; exact hq.elim
      | some c =>
        rw [e] at hq
        exact ix_str va sl pins s σ H _ _ v u P I rx ry ⟨a, i, c, rfl, rfl, hz, e, k _ _ G H hq (Gr.refl j) (.str _)⟩ hsub
    | _ => exact hq.elim
  | _ => exact hq.elim
abbrev DO := DS → (Option Int → Prop) → Prop
def liftO (K : PySem.W.Frag) (B : Bx) (r : DO) : TO := fun σ H P => ∃ (H0 G : Hp) (δ : DS) (Q : Option Int → Prop), Jn K B G H ∧ StOk K B H0 G H σ δ ∧ r δ Q ∧ ∀ o G2 H2, Q o → Gr K B G H G2 H2 → P o H2
abbrev POD (X : Cx) (B : Bx) (e : Option Expr) (r : DO) : Prop := PO X e (liftO X.K B r)
def noP : DO := fun _ Q => Q none
def aP (r : DE) : DO := fun δ Q => r δ fun x => match x with
  | .int i => Q (some i)
  | _ => False
theorem po_mono {e : Option Expr} {t t' : TO} (h : PO X e t) (m : ∀ σ H Q, t' σ H Q → t σ H Q) : PO X e t' := ⟨fun pins s σ H Q I hw => h.run pins s σ H Q I (m σ H Q hw)⟩
theorem pod_none : POD X B none noP := po_mono po_none fun σ H P q => by
  obtain ⟨H0, G, δ, Q, j, st, hr, k⟩ := q
  exact k none G H hr (Gr.refl j)
theorem pod_some {e : Expr} {r : DE} (h : PD X B e r) : POD X B (some e) (aP r) := po_mono (po_some h) fun σ H P q => by
  obtain ⟨H0, G, δ, Q, j, st, hr, k⟩ := q
  refine ⟨H0, G, δ, _, j, st, hr, fun d v G2 H2 q2 g2 h2 => ?_⟩
  cases h2 with
  | int i => exact ⟨i, rfl, k _ G2 H2 q2 g2⟩
  | _ => exact q2.elim
def cut {α : Type} (xs : List α) (lo hi : Option Int) : List α := (xs.drop (HT.sIx xs.length 0 lo)).take (HT.sIx xs.length xs.length hi - HT.sIx xs.length 0 lo)
def oSl (x : D) (lo hi : Option Int) (Q : D → Prop) : Prop := match x with
  | .lst xs => Q (.lst (cut xs lo hi))
  | .tup xs => Q (.tup (cut xs lo hi))
  | .str a => a.length ≤ sizeLine ∧ Q (.str ⟨(cut a.cps.toList lo hi).toArray⟩)
  | _ => False
def dSl (r : DE) (lo hi : DO) : DE := fun δ Q => r δ fun x => lo δ fun l => hi δ fun h => oSl x l h Q
theorem Dats.cut {K : PySem.W.Frag} {G : Hp} {vs : List V} {ds : List D} (h : Dats K B G vs ds) (lo hi : Option Int) : Dats K B G (cutV vs lo hi) (DL.cut ds lo hi) := by
  unfold cutV DL.cut
  rw [h.len]
  exact (h.drop _).take _
theorem sl_d : SlR X (fun x lo hi H P => ∃ (G : Hp) (dx : D) (Q : D → Prop), Jn X.K B G H ∧ Dat X.K B G x dx ∧ oSl dx lo hi Q ∧ ∀ d v G2 H2, Q d → Gr X.K B G H G2 H2 → Dat X.K B G2 v d → P v H2) := by
  intro pins s σ H x v vl vu lo hi sl P I rx r1 r2 r3 q
  obtain ⟨G, dx, Q, j, hx, hq, k⟩ := q
  cases hx with
  | lst h1 t1 =>
    refine sl_list pins s σ H _ v vl vu lo hi sl P I rx r1 r2 r3 ⟨_, _, rfl, sq_of (j.ex _ _ h1), fun p hp => ?_⟩
    exact k _ _ (upd G p _) _ hq (Gr.new j hp) (.lst upd_same ((t1.cut _ _).mono (Ex.new (fresh_back j.ex hp))))
  | tup h1 t1 =>
    refine sl_tupA pins s σ H _ v vl vu lo hi sl P I rx r1 r2 r3 ⟨_, _, rfl, tx j.ex h1, fun w => ?_, fun _ p hp => ?_⟩
    · rename_i a xs ds
      have e : cut ds lo hi = ds := by
        unfold DL.cut
        rw [← t1.len, w.1, w.2, List.drop_zero, Nat.sub_zero, t1.len, List.take_length]
      have hq : Q (.tup (cut ds lo hi)) := hq
      rw [e] at hq
      exact k _ _ G H hq (Gr.refl j) (.tup h1 t1)
    · exact k _ _ (upd G p _) _ hq (Gr.new j hp) (.tup upd_same ((t1.cut _ _).mono (Ex.new (fresh_back j.ex hp))))
  | str a =>
    exact sl_str pins s σ H _ v vl vu lo hi sl P I rx r1 r2 r3 ⟨a, rfl, hq.1, k _ _ G H hq.2 (Gr.refl j) (.str _)⟩
  | _ => exact hq.elim
theorem pd_slice {e : Expr} {lo hi : Option Expr} {r : DE} {rl rh : DO} {p2 pos : Pos} (he : PD X B e r) (hl : POD X B lo rl) (hh : POD X B hi rh) : PD X B (.Subscript e (.Slice lo hi none p2) pos) (dSl r rl rh) := pe_mono (pe_slice sl_d he hl hh) fun σ H P q => by
  obtain ⟨H0, G, δ, Q, j, st, hr, k⟩ := q
  refine ⟨H0, G, δ, _, j, st, hr, fun d v G2 H2 q2 g2 h2 => ?_⟩
  refine ⟨H0, G2, δ, _, g2.j, st.gr g2, q2, fun l G3 H3 q3 g3 => ?_⟩
  refine ⟨H0, G3, δ, _, g3.j, (st.gr g2).gr g3, q3, fun h G4 H4 q4 g4 => ?_⟩
  exact ⟨G4, d, Q, g4.j, h2.mono (g3.ex.trans g4.ex), q4, fun d' v' G5 H5 q5 g5 h5 => k d' v' G5 H5 q5 (((g2.trans g3).trans g4).trans g5) h5⟩
def isFlat : D → Bool
  | .non => true
  | .bl _ => true
  | .int _ => true
  | .str _ => true
  | _ => false
def eqF : D → D → Bool
  | .non, .non => true
  | .bl a, .bl b => a == b
  | .bl a, .int b => (if a then 1 else 0) == b
  | .int a, .bl b => a == (if b then 1 else 0)
  | .int a, .int b => a == b
  | .str a, .str b => a == b
  | _, _ => false
def inD (x : D) (xs : List D) : Bool := xs.any fun y => eqF y x
theorem flat_v {K : PySem.W.Frag} {G : Hp} {v : V} {d : D} (h : Dat K B G v d) (f : isFlat d = true) : flatV v = true := by
  cases h <;> first | rfl | cases f
theorem eq_v {K : PySem.W.Frag} {G : Hp} {v w : V} {d e : D} (h : Dat K B G v d) (h2 : Dat K B G w e) (f : isFlat d = true) (f2 : isFlat e = true) : eqV v w = eqF d e := by
  cases h with
  | non => cases h2 <;> first | rfl | cases f2
  | bl _ => cases h2 <;> first | rfl | cases f2
  | int _ => cases h2 <;> first | rfl | cases f2
  | str _ => cases h2 <;> first | rfl | cases f2
  | _ => cases f
theorem flats_v {K : PySem.W.Frag} {G : Hp} : ∀ {vs : List V} {ds : List D}, Dats K B G vs ds → ds.all isFlat = true → vs.all flatV = true
  | _, _, .nil, _ => rfl
  | _, _, .cons h t, f => by
    have f' := Bool.and_eq_true_iff.mp (show (isFlat _ && List.all _ isFlat) = true from f)
    rw [List.all_cons, flat_v h f'.1, flats_v t f'.2]
    rfl
theorem in_v {K : PySem.W.Frag} {G : Hp} {v : V} {d : D} (hv : Dat K B G v d) (fv : isFlat d = true) : ∀ {vs : List V} {ds : List D}, Dats K B G vs ds → ds.all isFlat = true → inV v vs = inD d ds
  | _, _, .nil, _ => rfl
  | _, _, .cons h t, f => by
    have f' := Bool.and_eq_true_iff.mp (show (isFlat _ && List.all _ isFlat) = true from f)
    have ih := in_v hv fv t f'.2
    unfold inV inD at ih ⊢
    rw [List.any_cons, List.any_cons, ih, eq_v h hv f'.1 fv]
def oIn (neg : Bool) : O2 := fun x y Q => match y with
  | .str z => match x with
    | .str w => match w.cps.toList with
      | [c] => Q (.bl (if neg then !decide (c ∈ z.cps.toList) else decide (c ∈ z.cps.toList)))
      | _ => False
    | _ => False
  | .lst ys => (isFlat x = true ∧ ys.all isFlat = true) ∧ Q (.bl (if neg then !inD x ys else inD x ys))
  | .tup ys => (isFlat x = true ∧ ys.all isFlat = true) ∧ Q (.bl (if neg then !inD x ys else inD x ys))
  | .ktup ys => (isFlat x = true ∧ ys.all isFlat = true) ∧ Q (.bl (if neg then !inD x ys else inD x ys))
  | _ => False
theorem sign_of {w : Str} {c : Nat} (h : w.cps.toList = [c]) : w = ⟨#[c]⟩ := by
  cases w with
  | mk cp =>
    have : cp = #[c] := by
      have : cp.toList = [c] := h
      rw [← Array.toList_inj]
      exact this
    rw [this]
theorem op_in_d : OpR X (compareOp .In) (rLift X.K B (oIn false)) := by
  intro pins s σ H x y v u P I rx ry q
  obtain ⟨G, dx, dy, Q, j, hx, hy, hq, k⟩ := q
  cases hy with
  | str z =>
    cases hx with
    | str w =>
      have hq : (match w.cps.toList with | [c] => Q (.bl (decide (c ∈ z.cps.toList))) | _ => False) := hq
      cases e : w.cps.toList with
      | nil => rw [e] at hq; exact hq.elim
      | cons c r =>
        cases r with
        | cons _ _ => rw [e] at hq; exact hq.elim
        | nil =>
          rw [e] at hq
          exact op_in_sign pins s σ H _ _ v u P I rx ry ⟨c, z, by rw [sign_of e], rfl, k _ _ G H hq (Gr.refl j) (.bl _)⟩
    | _ => exact hq.elim
  | lst h1 t1 =>
    obtain ⟨⟨f1, f2⟩, hq⟩ := hq
    refine op_in_seq pins s σ H _ _ v u P I rx ry ⟨_, _, rfl, .inl (sq_of (j.ex _ _ h1)), flat_v hx f1, flats_v t1 f2, ?_⟩
    have e := in_v hx f1 t1 f2
    rw [e]
    exact k _ _ G H hq (Gr.refl j) (.bl _)
  | tup h1 t1 =>
    obtain ⟨⟨f1, f2⟩, hq⟩ := hq
    refine op_in_seq pins s σ H _ _ v u P I rx ry ⟨_, _, rfl, .inr (tx j.ex h1), flat_v hx f1, flats_v t1 f2, ?_⟩
    have e := in_v hx f1 t1 f2
    rw [e]
    exact k _ _ G H hq (Gr.refl j) (.bl _)
  | ktup h1 t1 =>
    obtain ⟨⟨f1, f2⟩, hq⟩ := hq
    refine op_in_seq pins s σ H _ _ v u P I rx ry ⟨_, _, rfl, .inr (ex_t j.ex h1), flat_v hx f1, flats_v t1 f2, ?_⟩
    have e := in_v hx f1 t1 f2
    rw [e]
    exact k _ _ G H hq (Gr.refl j) (.bl _)
  | _ => exact hq.elim
def cLen : FD := fun ds Q => match ds with
  | [.lst xs] => Q (.int xs.length)
  | [.tup xs] => Q (.int xs.length)
  | [.str a] => a.length ≤ sizeLine ∧ Q (.int a.length)
  | _ => False
theorem call_len_d : CallR X (.builtin "len") (cLift X.K B cLen) := by
  intro pins s σ H vs us P I rv q
  obtain ⟨G, ds, Q, j, hd, hq, k⟩ := q
  cases hd with
  | nil => exact hq.elim
  | cons h1 h2 =>
    cases h2 with
    | cons _ _ => cases h1 <;> exact hq.elim
    | nil =>
      cases h1 with
      | lst a t => exact call_len_seq pins s σ H _ us P I rv ⟨_, _, rfl, .inl (sq_of (j.ex _ _ a)), by rw [t.len]; exact k _ _ G H hq (Gr.refl j) (.int _)⟩
      | tup a t => exact call_len_seq pins s σ H _ us P I rv ⟨_, _, rfl, .inr (tx j.ex a), by rw [t.len]; exact k _ _ G H hq (Gr.refl j) (.int _)⟩
      | str a => exact call_len_str pins s σ H _ us P I rv ⟨a, rfl, hq.1, k _ _ G H hq.2 (Gr.refl j) (.int _)⟩
      | _ => exact hq.elim
def cInt : FD := fun ds Q => match ds with
  | [.int i] => Q (.int i)
  | [.bl b] => Q (.int (if b then 1 else 0))
  | [.str a] => match intText? a with
    | some n => a.length ≤ 640 ∧ Q (.int n)
    | none => False
  | _ => False
theorem call_int_d : CallR X (.type "int") (cLift X.K B cInt) := by
  intro pins s σ H vs us P I rv q
  obtain ⟨G, ds, Q, j, hd, hq, k⟩ := q
  cases hd with
  | nil => exact hq.elim
  | cons h1 h2 =>
    cases h2 with
    | cons _ _ => cases h1 <;> exact hq.elim
    | nil =>
      cases h1 with
      | int i => exact call_int1 pins s σ H _ us P I rv (.inl ⟨i, rfl, k _ _ G H hq (Gr.refl j) (.int _)⟩)
      | bl b => exact call_int1 pins s σ H _ us P I rv (.inr ⟨b, rfl, k _ _ G H hq (Gr.refl j) (.int _)⟩)
      | str a =>
        have hq : (match intText? a with | some n => a.length ≤ 640 ∧ Q (.int n) | none => False) := hq
        cases e : intText? a with
        | none => rw [e] at hq; exact hq.elim
        | some n =>
          rw [e] at hq
          exact call_int_str pins s σ H _ us P I rv ⟨a, n, rfl, e, hq.1, k _ _ G H hq.2 (Gr.refl j) (.int _)⟩
      | _ => exact hq.elim
def blsOf : List D → Option (List Bool)
  | [] => some []
  | .bl b :: r => (blsOf r).map (b :: ·)
  | _ :: _ => none
theorem bls_v {K : PySem.W.Frag} {G : Hp} : ∀ {vs : List V} {ds : List D} {bs : List Bool}, Dats K B G vs ds → blsOf ds = some bs → vs = bs.map V.bl
  | _, _, bs, .nil, e => by cases e; rfl
  | _, _, bs, .cons h t, e => by
    cases h with
    | bl b =>
      have e : (blsOf _).map (b :: ·) = some bs := e
      cases h2 : blsOf _ with
      | none => rw [h2] at e; cases e
      | some cs =>
        rw [h2] at e
        cases e
        rw [bls_v t h2]
        rfl
    | _ => cases e
def cAll : FD := fun ds Q => match ds with
  | [.lst xs] => match blsOf xs with
    | some bs => Q (.bl (bs.all id))
    | none => False
  | _ => False
theorem call_all_d (hc : X.calm = true) : CallR X (.builtin "all") (cLift X.K B cAll) := by
  intro pins s σ H vs us P I rv q
  obtain ⟨G, ds, Q, j, hd, hq, k⟩ := q
  cases hd with
  | nil => exact hq.elim
  | cons h1 h2 =>
    cases h2 with
    | cons _ _ => cases h1 <;> exact hq.elim
    | nil =>
      cases h1 with
      | @lst a vs xs ha t =>
        have hq : (match blsOf xs with | some bs => Q (.bl (bs.all id)) | none => False) := hq
        cases e : blsOf xs with
        | none => rw [e] at hq; exact hq.elim
        | some bs =>
          rw [e] at hq
          have e2 := bls_v t e
          subst e2
          exact cr_all hc pins s σ H _ us P I rv ⟨a, bs, rfl, sq_of (j.ex _ _ ha), k _ _ G H hq (Gr.refl j) (.bl _)⟩
      | _ => exact hq.elim
end
end DL
namespace DL
open PySem PySem.Spec PyProof.Rows L2 Evl
section
variable {X : Cx} {B : Bx} {e : Expr} {es : List Expr} {r : DE} {pos : Pos}
def tyN : D → String
  | .non => "NoneType"
  | .bl _ => "bool"
  | .int _ => "int"
  | .str _ => "str"
  | .lst _ => "list"
  | .tup _ => "tuple"
  | .dic _ => "dict"
  | .obj _ _ => ""
  | .bag => "list"
  | .ktup _ => "tuple"
def isi (T : String) (d : D) : Bool := match d with
  | .bl _ => T == "bool" || T == "int"
  | d => tyN d == T
def pureD : D → Bool
  | .obj _ _ => false
  | .bag => false
  | .ktup _ => false
  | _ => true
def TyY (K : PySem.W.Frag) (H : Hp) (v : V) (T : String) : Prop := TyX K H v (.type T) ∨ ∃ a od kvs, v = .ref a ∧ H a = some (.frz od (.dT kvs)) ∧ T = "dict"
def rIsiD (K : PySem.W.Frag) : List V → Hp → VK → Prop := fun xs H Q => ∃ (x c : V) (T : String) (u : Value) (b : Bool), xs = [x, c] ∧ ClsV c u ∧ TyY K H x T ∧ PySem.W.kitOne K (.type T) u = some b ∧ Q (.bl b) H
theorem call_isiD : CallR X (.builtin "isinstance") (rIsiD X.K) := by
  intro pins s σ H xs us Q I r h
  obtain ⟨x, c, T, u, b, rfl, k, ty, e, q⟩ := h
  rcases ty with ty | ⟨a, od, kvs, rfl, ha, rfl⟩
  · exact call_isi pins s σ H _ us Q I r ⟨x, c, _, u, b, rfl, k, ty, e, q⟩
  · obtain ⟨u1, u2, rfl, r1, r2⟩ := vals2 r
    have e2 := k.eq r2
    subst e2
    cases (show u1 = Value.ref a from r1)
    obtain ⟨_, _, _, _, _, o, es, ep, h1, h2, _⟩ := (show ObjOk X.prog X.w H s.heap a (.frz od (.dT kvs)) from I.hok a _ ha)
    exact PySem.W.kia_one PySem.W.kitx_dict I.kIn ⟨o, h1, h2.1⟩ e (fun z => nomatch z) fun tk => ⟨.bl b, H, I.tok tk, rfl, q⟩
theorem ty_d {K : PySem.W.Frag} {G H : Hp} {v : V} {d : D} (e : Ex G H) (h : Dat K B G v d) (p : pureD d = true) : TyY K H v (tyN d) := by
  cases h with
  | non => exact .inl (.base .non)
  | bl b => exact .inl (.base (.bl b))
  | int i => exact .inl (.base (.int i))
  | str x => exact .inl (.base (.str x))
  | lst h t => exact .inl (.base (.lst (e _ _ h)))
  | tup h t => exact .inl (.base (.tup (e _ _ h)))
  | dK h t => exact .inl (.fDict (e _ _ h))
  | dT h t => exact .inr ⟨_, _, _, rfl, e _ _ h, rfl⟩
  | bag => cases p
  | ktup _ _ => cases p
  | obj _ _ _ => cases p
def knownTy (T : String) : Prop := ∀ d : D, pureD d = true → kitB (tyN d) T = some (isi T d)
theorem known_int : knownTy "int"
  | .non, _ => (by decide +kernel : kitB "NoneType" "int" = some false)
  | .bl _, _ => (by decide +kernel : kitB "bool" "int" = some true)
  | .int _, _ => (by decide +kernel : kitB "int" "int" = some true)
  | .str _, _ => (by decide +kernel : kitB "str" "int" = some false)
  | .lst _, _ => (by decide +kernel : kitB "list" "int" = some false)
  | .tup _, _ => (by decide +kernel : kitB "tuple" "int" = some false)
  | .dic _, _ => (by decide +kernel : kitB "dict" "int" = some false)
  | .obj _ _, p => nomatch p
  | .bag, p => nomatch p
  | .ktup _, p => nomatch p
theorem known_bool : knownTy "bool"
  | .non, _ => (by decide +kernel : kitB "NoneType" "bool" = some false)
  | .bl _, _ => (by decide +kernel : kitB "bool" "bool" = some true)
  | .int _, _ => (by decide +kernel : kitB "int" "bool" = some false)
  | .str _, _ => (by decide +kernel : kitB "str" "bool" = some false)
  | .lst _, _ => (by decide +kernel : kitB "list" "bool" = some false)
  | .tup _, _ => (by decide +kernel : kitB "tuple" "bool" = some false)
  | .dic _, _ => (by decide +kernel : kitB "dict" "bool" = some false)
  | .obj _ _, p => nomatch p
  | .bag, p => nomatch p
  | .ktup _, p => nomatch p
theorem known_str : knownTy "str"
  | .non, _ => (by decide +kernel : kitB "NoneType" "str" = some false)
  | .bl _, _ => (by decide +kernel : kitB "bool" "str" = some false)
  | .int _, _ => (by decide +kernel : kitB "int" "str" = some false)
  | .str _, _ => (by decide +kernel : kitB "str" "str" = some true)
  | .lst _, _ => (by decide +kernel : kitB "list" "str" = some false)
  | .tup _, _ => (by decide +kernel : kitB "tuple" "str" = some false)
  | .dic _, _ => (by decide +kernel : kitB "dict" "str" = some false)
  | .obj _ _, p => nomatch p
  | .bag, p => nomatch p
  | .ktup _, p => nomatch p
theorem known_list : knownTy "list"
  | .non, _ => (by decide +kernel : kitB "NoneType" "list" = some false)
  | .bl _, _ => (by decide +kernel : kitB "bool" "list" = some false)
  | .int _, _ => (by decide +kernel : kitB "int" "list" = some false)
  | .str _, _ => (by decide +kernel : kitB "str" "list" = some false)
  | .lst _, _ => (by decide +kernel : kitB "list" "list" = some true)
  | .tup _, _ => (by decide +kernel : kitB "tuple" "list" = some false)
  | .dic _, _ => (by decide +kernel : kitB "dict" "list" = some false)
  | .obj _ _, p => nomatch p
  | .bag, p => nomatch p
  | .ktup _, p => nomatch p
theorem known_tuple : knownTy "tuple"
  | .non, _ => (by decide +kernel : kitB "NoneType" "tuple" = some false)
  | .bl _, _ => (by decide +kernel : kitB "bool" "tuple" = some false)
  | .int _, _ => (by decide +kernel : kitB "int" "tuple" = some false)
  | .str _, _ => (by decide +kernel : kitB "str" "tuple" = some false)
  | .lst _, _ => (by decide +kernel : kitB "list" "tuple" = some false)
  | .tup _, _ => (by decide +kernel : kitB "tuple" "tuple" = some true)
  | .dic _, _ => (by decide +kernel : kitB "dict" "tuple" = some false)
  | .obj _ _, p => nomatch p
  | .bag, p => nomatch p
  | .ktup _, p => nomatch p
abbrev OM := D → List D → (D → Prop) → Prop
def cTuple : FD := fun ds Q => match ds with
  | [.lst xs] => Q (.tup xs)
  | [.tup xs] => Q (.tup xs)
  | _ => False
theorem call_tuple_d : CallR X (.type "tuple") (cLift X.K B cTuple) := by
  intro pins s σ H vs us P I rv q
  obtain ⟨G, ds, Q, j, hd, hq, k⟩ := q
  cases hd with
  | nil => exact hq.elim
  | cons h1 h2 =>
    cases h2 with
    | cons _ _ => cases h1 <;> exact hq.elim
    | nil =>
      cases h1 with
      | lst a t => exact call_tuple_of pins s σ H _ us P I rv ⟨_, _, rfl, .inl ⟨sq_of (j.ex _ _ a), fun p hp => k _ _ (upd G p _) _ hq (Gr.new j hp) (.tup upd_same (t.mono (Ex.new (fresh_back j.ex hp))))⟩⟩
      | tup a t => exact call_tuple_of pins s σ H _ us P I rv ⟨_, _, rfl, .inr ⟨tx j.ex a, k _ _ G H hq (Gr.refl j) (.tup a t)⟩⟩
      | _ => exact hq.elim
end
end DL
namespace DL
open PySem PySem.Spec PyProof.Rows L2 Evl
theorem obj_slt {K : PySem.W.Frag} {B : Bx} {G H : Hp} {a dx : Addr} {C : Nat} {vs : List V} (e : Ex G H) (h1 : G a = some (SlX.SlO a (B.ct C) dx (vs.map some))) (h2 : G dx = some (.xd []))   : SlX.Slt H a (B.ct C) dx (vs.map some) := .inr ⟨e _ _ h1, e _ _ h2⟩
section
variable {X : Cx} {B : Bx} {e o : Expr} {es : List Expr} {r : DE} {pos : Pos} {p g : Addr} {f m : Str} {i k C : Nat} {S : FD} {ra : DA} {E : XK}
def dFld (C : Nat) (i : Nat) (r : DE) : DE := fun δ Q => r δ fun d => match d with
  | .obj C' fs => C' = C ∧ (match fs[i]? with
    | some d => Q d
    | none => False)
  | _ => False
theorem pd_fld (c : SlX.SCls X.K (B.ct C)) (t : SlX.Slot1 X.K (B.ct C) f p i) (he : PD X B e r) (hb : attributeBase e f X.env (eval e X.env) = eval e X.env := by rfl) : PD X B (.Attribute e f pos) (dFld C i r) := pe_mono (SlX.pe_sl he hb) fun σ H P q => by
  obtain ⟨H0, G, δ, Q, j, st, hr, k⟩ := q
  refine ⟨H0, G, δ, _, j, st, hr, fun d v G2 H2 q2 g2 h2 => ?_⟩
  cases h2 with
  | @obj a dx C' vs fs h3 h4 h5 =>
    obtain ⟨rfl, q2⟩ := q2
    cases hf : fs[i]? with
    | none => rw [hf] at q2; exact q2.elim
    | some d =>
      rw [hf] at q2
      obtain ⟨u, e1, e2⟩ := h5.get hf
      exact ⟨a, B.ct C', dx, p, vs.map some, i, u, rfl, obj_slt (K := X.K) (B := B) g2.j.ex h3 h4, c, t, by rw [List.getElem?_map, e1]; rfl, k _ _ G2 H2 q2 g2 e2⟩
  | _ => exact q2.elim
def isO (C : Nat) (d : D) : Prop := match d with
  | .obj C' _ => C' = C
  | _ => False
end
def putD (m : Nat) (d : D) (fs : List (Option D)) : List (Option D) := (fs ++ List.replicate (m + 1 - fs.length) none).set m (some d)
theorem fld_put {K : PySem.W.Frag} {B : Bx} {G : Hp} {vs : List (Option V)} {fs : List (Option D)} {m : Nat} {v : V} {d : D} (h : FldOk K B G vs fs) (hv : Dat K B G v d) : FldOk K B G (SlX.putS m v vs) (putD m d fs) := by
  refine ⟨by unfold SlX.putS putD; simp only [List.length_set, List.length_append, List.length_replicate]; rw [h.1], fun i x e => ?_⟩
  by_cases hi : i = m
  · subst hi
    have e2 : (putD i d fs)[i]? = some (some d) := by
      unfold putD
      exact List.getElem?_set_self (by simp only [List.length_append, List.length_replicate]; omega)
    rw [e2] at e
    cases e
    exact ⟨v, SlX.putS_get i v vs, hv⟩
  · have e2 : fs[i]? = some (some x) := by
      unfold putD at e
      rw [List.getElem?_set_ne (Ne.symm hi)] at e
      by_cases hl : i < fs.length
      · rw [List.getElem?_append_left hl] at e; exact e
      · rw [List.getElem?_append_right (by omega), List.getElem?_replicate] at e
        split at e <;> cases e
    obtain ⟨u, a, b⟩ := h.2 i x e2
    exact ⟨u, (SlX.putS_ne hi).mpr a, b⟩
def notNw : Option SD → Bool
  | some (.nw _ _ _) => false
  | _ => true
def oneNw (i : Nat) (δ : DS) : Bool := (List.range δ.length).all fun j => j == i || notNw (δ.getD j none)
section
variable {K : PySem.W.Frag} {B : Bx} {G0 H0 G H : Hp} {σ : L2.St} {δ : DS} {i m C : Nat} {x dx : Addr} {vs : List (Option V)} {fs : List (Option D)} {v : V} {d : D}
theorem nw_gr (g : Gr K B G0 H0 G H) (n : NwAt K B H0 G H x C dx vs fs) (ws : List (Option V)) : Gr K B G0 H0 G (SlX.slH H x (B.ct C) dx ws) := (g.own n.hd n.gd n.bd).own n.hx n.gx n.bx
theorem nw_put (n : NwAt K B H0 G H x C dx vs fs) (hv : Dat K B G v d) : NwAt K B H0 G (SlX.slH H x (B.ct C) dx (SlX.putS m v vs)) x C dx (SlX.putS m v vs) (putD m d fs) :=
  ⟨SlX.slH_slt n.ne, .inr (by unfold SlX.slH; rw [upd_ne n.ne, upd_same]), n.ne, n.gx, n.gd, n.hx, n.hd, n.bx, n.bd, fld_put n.fl hv⟩
theorem StF.nw {F : Nat → List Addr} (y : StF K B H0 G H σ δ F) (h : δ[i]? = some (some (.nw x C fs))) : ∃ dx vs, σ[i]? = some (some (.ref x)) ∧ NwAt K B H0 G H x C dx vs fs ∧ F i = [x, dx] := by
  obtain ⟨ov, h1, s⟩ := y.get h
  generalize F i = f at s ⊢
  cases s with
  | nw n => exact ⟨_, _, h1, n, rfl⟩
theorem st_put {F : Nat → List Addr} (y : StF K B H0 G H σ δ F) (hi : δ[i]? = some (some (.nw x C fs))) (hs : σ[i]? = some (some (.ref x))) (n : NwAt K B H0 G H x C dx vs fs) (hF : F i = [x, dx]) (hv : Dat K B G v d) :
    StF K B H0 G (SlX.slH H x (B.ct C) dx (SlX.putS m v vs)) σ (δ.set i (some (.nw x C (putD m d fs)))) (fun j => if j = i then [x, dx] else F j) := by
  have z := y.put (i := i) (List.getElem?_eq_some_iff.mp hs).1 (Ex.refl G) (H2 := SlX.slH H x (B.ct C) dx (SlX.putS m v vs)) (fun p _ _ hp => ?_) (.nw (nw_put (m := m) n hv)) fun p hp => .inr (by rw [hF]; exact hp)
  · rw [set_same hs] at z
    exact z
  · rw [hF] at hp
    have h1 : p ≠ x := fun e => hp (by rw [e]; simp)
    have h2 : p ≠ dx := fun e => hp (by rw [e]; simp)
    exact ⟨SlX.slH_ne h1 h2, rfl⟩
end
section
variable {X : Cx} {B : Bx} {e : Expr} {r : DE} {pos : Pos} {p : Addr} {f : Str} {i m C : Nat}
/-- self.f = e -/
def dSelf (i m : Nat) (C : Nat) (r : DE) : DTS := fun W δ => r δ fun d => match δ[i]? with
  | some (some (.nw x C' fs)) => (C' = C ∧ oneNw i δ = true) ∧ W.nx (δ.set i (some (.nw x C (putD m d fs))))
  | _ => False
theorem psd_self {o : Expr} {pos' : Pos} (c : SlX.SCls X.K (B.ct C)) (t : SlX.Slot1 X.K (B.ct C) f p m) (ho : PE X o (tVar i)) (he : PD X B e r) (hs : swapsWith e (some (.Attribute o f pos')) pos.line X.env = pure false := by rfl) : PSD X B (.Assign [.Attribute o f pos'] e pos) (dSelf i m C r) := ps_mono (SlX.ps_sl ho he hs) fun E σ H q => by
  obtain ⟨G0, H0, G, δ, W, g, s, h, k⟩ := q
  refine at_stmt g s h fun d v G2 H2 q2 g2 e2 s2 h2 => ?_
  have q2 : (match δ[i]? with | some (some (.nw x C' fs)) => (C' = C ∧ oneNw i δ = true) ∧ W.nx (δ.set i (some (.nw x C (putD m d fs)))) | _ => False) := q2
  cases h1 : δ[i]? with
  | none => rw [h1] at q2; exact q2.elim
  | some z =>
    cases z with
    | none => rw [h1] at q2; exact q2.elim
    | some y =>
      cases y with
      | sh _ => rw [h1] at q2; exact q2.elim
      | ow _ _ => rw [h1] at q2; exact q2.elim
      | nw x C' fs =>
        rw [h1] at q2
        obtain ⟨⟨rfl, one⟩, q2⟩ := q2
        obtain ⟨F, y⟩ := s2.ex
        obtain ⟨dx, vs, a1, n, hF⟩ := StF.nw y h1
        refine ⟨.ref x, a1, x, _, dx, p, vs, m, rfl, n.sl, c, t, ?_⟩
        exact k.nx _ _ G2 _ q2 (nw_gr g2 n _) e2 ⟨_, st_put y h1 a1 n hF h2⟩
end
abbrev FI := List D → (List D → Prop) → Prop
def hid2 (H : Hp) (x dx : Addr) : Hp := fun b => if b = x ∨ b = dx then none else H b
def spI (K : PySem.W.Frag) (B : Bx) (C : Nat) (S : FI) : Sp := fun vs H P _ => ∃ (x dx : Addr) (ws : List V) (G : Hp) (ds : List D) (Q : List D → Prop), vs = .ref x :: ws ∧ H x = some (.ins (B.ct C) dx []) ∧ H dx = some (.own x) ∧ dx ≠ x ∧ G x = none ∧ G dx = none ∧ Jn K B G H ∧ B.nb x ∧ B.nb dx ∧ Dats K B G ws ds ∧ S ds Q ∧
  ∀ fs us dy G2 H2, Q fs → Gr K B G (hid2 H x dx) G2 H2 → H2 x = some (SlX.SlO x (B.ct C) dy (us.map some)) → H2 dy = some (.xd []) → dy ≠ x → G2 x = none → G2 dy = none → hid2 H x dx dy = none → B.nb dy → Dats K B G2 us fs → P .non H2
def startI (n : Nat) (x : Addr) (C : Nat) (ds : List D) : DS := some (.nw x C []) :: (ds.map (fun d => some (.sh d)) ++ List.replicate (n - 1 - ds.length) none)
def endI (x : Addr) (C : Nat) (Q : List D → Prop) : DEnds where
  nx := fun (δ : DS) => match (δ[0]? : Option (Option SD)) with
    | some (some (.nw x' C' fs)) => (x' = x ∧ C' = C) ∧ ∃ ds, fs = ds.map some ∧ ds ≠ [] ∧ Q ds
    | _ => False
  rt := fun _ => False
theorem flds_all {K : PySem.W.Frag} {B : Bx} {G : Hp} : ∀ {vs : List (Option V)} {ds : List D}, FldOk K B G vs (ds.map some) → ∃ us, vs = us.map some ∧ Dats K B G us ds
  | [], [], _ => ⟨[], rfl, .nil⟩
  | [], _ :: _, h => nomatch h.1
  | _ :: _, [], h => nomatch h.1
  | v :: vs, d :: ds, h => by
    obtain ⟨u, e1, e2⟩ := h.2 0 d rfl
    cases e1
    obtain ⟨us, e3, e4⟩ := flds_all (vs := vs) (ds := ds) ⟨Nat.succ.inj h.1, fun i x e => h.2 (i + 1) x e⟩
    exact ⟨u :: us, by rw [e3]; rfl, .cons e2 e4⟩
section
variable {P : Program} {w : World} {K : PySem.W.Frag} {mg : Str → Option Value} {base : Heap}
/-- the __init__'s entry, by its promise -/
theorem init_lift {N : List Str} {B : Bx} {C : Nat} {S : FI} {t : DTS} {vs : List V} {H : Hp} {Q : VK} {E : XK} (hN : 1 ≤ N.length) (vc : ∀ x ds Q, S ds Q → t (endI x C Q) (startI N.length x C ds)) (h : spI K B C S vs H Q E) :
    liftS K B t { nx := fun _ H' => Q .non H', rt := Q } (L2.start N vs) H := by
  obtain ⟨x, dx, ws, G, ds, R, rfl, hx, hdx, ne, gx, gd, j, nbx, nbd, hd, hs, kk⟩ := h
  have g0 : Gr K B G (hid2 H x dx) G H := by
    refine ⟨Ex.refl G, fun a o _ h => ?_, j, fun _ _ => rfl⟩
    unfold hid2 at h
    split at h
    · cases h
    · exact h
  have s0 : StOk K B (hid2 H x dx) G H (L2.start N (.ref x :: ws)) (startI N.length x C ds) := by
    have base_ := start_ok (K := K) (B := B) (H0 := hid2 H x dx) (H := H) (N := N) (vs := .ref x :: ws) (ds := .bag :: ds) (G := G)
    have len0 : (L2.start N (.ref x :: ws)).length = (startI N.length x C ds).length := by
      unfold L2.start startI
      simp only [List.length_append, List.length_map, List.length_cons, List.length_replicate]
      rw [hd.len]
      omega
    have at0 : (L2.start N (.ref x :: ws))[0]? = some (some (.ref x)) := rfl
    have rest : ∀ (i : Nat) (y : SD), (startI N.length x C ds)[i + 1]? = some (some y) → ∃ d v, y = .sh d ∧ (L2.start N (.ref x :: ws))[i + 1]? = some (some v) ∧ Dat K B G v d := fun i y e => by
      have e : (ds.map (fun d => some (SD.sh d)) ++ List.replicate (N.length - 1 - ds.length) none)[i]? = some (some y) := e
      by_cases hi : i < ds.length
      · rw [List.getElem?_append_left (by rw [List.length_map]; exact hi), List.getElem?_map] at e
        cases hdd : ds[i]? with
        | none => rw [hdd] at e; cases e
        | some d' =>
          rw [hdd] at e
          cases e
          obtain ⟨v, h1, h2⟩ := hd.get hdd
          refine ⟨d', v, rfl, ?_, h2⟩
          show (ws.map some ++ List.replicate (N.length - (ws.length + 1)) none)[i]? = _
          rw [List.getElem?_append_left (by rw [List.length_map, hd.len]; exact hi), List.getElem?_map, h1]
          rfl
      · rw [List.getElem?_append_right (by rw [List.length_map]; omega), List.getElem?_replicate] at e
        split at e <;> cases e
    have none0 : ∀ (i : Nat) (od : Option SD), (startI N.length x C ds)[i + 1]? = some od → od = none ∨ ∃ y, od = some y := fun i od _ => by cases od with | none => exact .inl rfl | some y => exact .inr ⟨y, rfl⟩
    refine ⟨fun i => if i = 0 then [x, dx] else [], len0, fun i ov od e1 e2 => ?_, fun i j' _ _ hij p hp hq => ?_⟩
    · cases i with
      | zero =>
        rw [at0] at e1
        cases e1
        cases e2
        rw [if_pos rfl]
        exact .nw ⟨.inl ⟨hx, rfl⟩, .inl hdx, ne, gx, gd, by unfold hid2; rw [if_pos (.inl rfl)], by unfold hid2; rw [if_pos (.inr rfl)], nbx, nbd, rfl, fun i d e => nomatch e⟩
      | succ i =>
        rw [if_neg (Nat.succ_ne_zero i)]
        rcases none0 i od e2 with rfl | ⟨y, rfl⟩
        · exact .no
        · obtain ⟨d', v, rfl, h2, h3⟩ := rest i y e2
          rw [h2] at e1
          cases e1
          exact .sh h3
    · by_cases h1 : i = 0
      · have h2 : j' ≠ 0 := fun z => hij (h1.trans z.symm)
        rw [if_neg h2] at hq
        exact nomatch hq
      · rw [if_neg h1] at hp
        exact nomatch hp
  refine ⟨G, hid2 H x dx, G, startI N.length x C ds, endI x C R, g0, s0, vc x ds R hs, ⟨?_, ?_, ?_, ?_, ?_⟩⟩
  · intro σ δ G2 H2 q g _ s2
    have q : (match (δ[0]? : Option (Option SD)) with | some (some (.nw x' C' fs)) => (x' = x ∧ C' = C) ∧ ∃ ds, fs = ds.map some ∧ ds ≠ [] ∧ R ds | _ => False) := q
    cases h1 : δ[0]? with
    | none => rw [h1] at q; exact q.elim
    | some z =>
      cases z with
      | none => rw [h1] at q; exact q.elim
      | some y =>
        cases y with
        | sh _ => rw [h1] at q; exact q.elim
        | ow _ _ => rw [h1] at q; exact q.elim
        | nw x' C' fs =>
          rw [h1] at q
          obtain ⟨⟨rfl, rfl⟩, es, rfl, hne, q⟩ := q
          obtain ⟨d2, us, a1, n⟩ := s2.nw 0 x' C' _ h1
          obtain ⟨zs, rfl, hz⟩ := flds_all n.fl
          rcases n.sl with ⟨z1, z2⟩ | ⟨z1, z2⟩
          · have : zs = [] := by simpa using z2
            subst this
            cases hz
            exact absurd rfl hne
          · exact kk es zs d2 G2 H2 q g z1 z2 n.ne n.gx n.gd n.hd n.bd hz
  · exact fun σ δ G2 H2 q g _ s2 => q.elim
  · exact fun σ δ G2 H2 q g _ s2 => q.elim
  · exact fun d v G2 H2 q g _ hd => q.elim
  · exact fun o v f G2 H2 q g _ hd => q.elim
end
section
variable {X : Cx} {B : Bx} {e : Expr} {es : List Expr} {pos : Pos} {g : Addr} {k C : Nat} {x : Str} {ra : DA} {S : FI}
def dMake (C : Nat) (S : FI) (ra : DA) : DE := fun δ Q => ra δ fun ds => S ds fun fs => Q (.obj C fs)
theorem pd_make {fp : Pos} (M : Mk X.K (B.ct C) g) (F : FnR X.prog X.w X.K X.mg X.base CX0 k g (spI X.K B C S)) (hr : Room (k + 1) X.A) (hg : Gl X x) (hm : X.mg x = some (.ref (B.ct C))) (ha : PAD X B (e :: es) ra) (hdb : (x == ("__debug__" : Str)) = false := by decide)
    (he : starEach (e :: es) X.env = (false, eval e X.env) :: starEach es X.env := by rfl) (hpl : (backTo pos (starEach es X.env)).any (·.1) = false := by rfl) : PD X B (.Call (.Name x fp) (e :: es) [] pos) (dMake C S ra) := pe_mono (StX.pe_makeR (E := E0) M F hr hg hm pass0 ha hdb he hpl) fun σ H P q => by
  obtain ⟨H0, G, δ, Q, j, st, hr, k⟩ := q
  refine ⟨H0, G, δ, _, j, st, hr, fun ds vs G2 H2 q2 g2 h2 y dx hy hdx ne => ?_⟩
  have gy : G2 y = none := fresh_back g2.j.ex hy
  have gd : G2 dx = none := fresh_back g2.j.ex hdx
  have j1 : Jn X.K B G2 (upd (upd H2 dx (.own y)) y (.ins (B.ct C) dx [])) := by
    have a := Gr.new0 (o := .own y) g2.j hdx
    exact (Gr.new0 (o := .ins (B.ct C) dx []) a.j (by rw [upd_ne (Ne.symm ne)]; exact hy)).j
  have eh : hid2 (upd (upd H2 dx (.own y)) y (.ins (B.ct C) dx [])) y dx = H2 := by
    funext b
    unfold hid2
    by_cases h1 : b = y
    · subst h1; rw [if_pos (.inl rfl), hy]
    · by_cases h3 : b = dx
      · subst h3; rw [if_pos (.inr rfl), hdx]
      · rw [if_neg (fun z => z.elim h1 h3), upd_ne h1, upd_ne h3]
  refine ⟨y, dx, vs, G2, ds, _, rfl, upd_same, by rw [upd_ne ne, upd_same], ne, gy, gd, j1, Gr.neB g2.j hy, Gr.neB g2.j hdx, h2, q2, fun fs us dy G3 H3 q3 g3 z1 z2 z3 z4 z5 z6 z7 z8 => ⟨rfl, ?_⟩⟩
  rw [eh] at g3 z6
  have g4 := g3.frz (p := dy) z6 z5 z7 z2
  have g5 := g4.frz (p := y) hy (by rw [upd_ne (Ne.symm z3)]; exact z4) (Gr.neB g2.j hy) z1
  have e5 : Ex G3 (upd (upd G3 dy (.xd [])) y (SlX.SlO y (B.ct C) dy (us.map some))) := (Ex.new z5).trans (Ex.new (by rw [upd_ne (Ne.symm z3)]; exact z4))
  exact k _ _ _ _ q3 (g2.trans g5) (.obj upd_same (by rw [upd_ne z3, upd_same]) (z8.mono e5))
end
end DL
namespace DL
open PySem PySem.Spec PyProof.Rows L2 Evl
structure DefAt (K : PySem.W.Frag) (mg : Str → Option Value) (x : Str) (st : Stmt) (ps : List Str) where
  f : Addr
  fd : FuncData
  fn : Fun K x x st f fd
  bd : Binds K fd ps []
  at_ : mg x = some (.ref f)
/-- a def within a class: its address and how it is bound -/
structure InAt (K : PySem.W.Frag) (x qual : Str) (st : Stmt) (ps : List Str) where
  f : Addr
  fd : FuncData
  fn : Fun K x qual st f fd
  bd : Binds K fd ps []
structure SlotAt (K : PySem.W.Frag) (C : Addr) (x : Str) (i : Nat) : Prop where
  ex : ∃ p, SlX.Slot1 K C x p i
/-- by positions -/
theorem fn_r {P : Program} {w : World} {K : PySem.W.Frag} {mg : Str → Option Value} {base : Heap} {CX : CXT} {k : Nat} {f : Addr} {fd : FuncData} {ps : List Str} {sp : Sp} (F : FnOk P w K mg base CX k f fd ps sp) (b : Binds K fd ps []) : FnR P w K mg base CX k f sp :=
  (F.raw b .nil).imp fun vs H Q E h => by rw [List.append_nil]; exact h
section
variable {X : Cx} {B : Bx} {e o : Expr} {es : List Expr} {r : DE} {pos : Pos} {C k k' i : Nat} {S : FD} {ra : DA} {f m : Str} {g : Addr}
/-- f(..), a def of the module -/
theorem pd_callD {x : Str} {st : Stmt} {ps : List Str} {fp : Pos} (T : DefAt X.K X.mg x st ps) (F : FnOk X.prog X.w X.K X.mg X.base CX0 k T.f T.fd ps (spD X.K B S)) (hr : Room k' X.A) (hk : k ≤ k') (hg : Gl X x) (ha : PAD X B (e :: es) ra) (hd : (x == ("__debug__" : Str)) = false := by decide) (he : starEach (e :: es) X.env = (false, eval e X.env) :: starEach es X.env := by rfl) (hpl : (backTo pos (starEach es X.env)).any (·.1) = false := by rfl) :
    PD X B (.Call (.Name x fp) (e :: es) [] pos) (dCall S ra) := pd_call F (hr.mono hk) hg T.at_ T.fn.kp T.bd (E := E0) pass0 ha hd he hpl
theorem pd_callDG {x : Str} {st : Stmt} {ps : List Str} {fp : Pos} (T : DefAt X.K X.mg x st ps) (F : FnG X.prog X.w X.K X.mg X.base CX0 k T.f T.fd ps (spD X.K B S)) (hgd : X.A.guards = some []) (hr : Room k' X.A) (hk : k ≤ k') (hg : Gl X x) (ha : PAD X B (e :: es) ra) (hd : (x == ("__debug__" : Str)) = false := by decide) (he : starEach (e :: es) X.env = (false, eval e X.env) :: starEach es X.env := by rfl) (hpl : (backTo pos (starEach es X.env)).any (·.1) = false := by rfl) :
    PD X B (.Call (.Name x fp) (e :: es) [] pos) (dCall S ra) := pd_callG F hgd (hr.mono hk) hg T.at_ T.fn.kp T.bd (E := E0) pass0 ha hd he hpl
theorem pd_fldD (c : SlX.SCls X.K (B.ct C)) (T : SlotAt X.K (B.ct C) f i) (he : PD X B e r) (hb : attributeBase e f X.env (eval e X.env) = eval e X.env := by rfl) : PD X B (.Attribute e f pos) (dFld C i r) := by
  obtain ⟨p, h⟩ := T.ex
  exact pd_fld c h he hb
end
section
variable {X : Cx} {B : Bx} {e : Expr} {r : DE} {pos : Pos} {C i m n : Nat} {f f2 : Str}
theorem psd_selfD {o : Expr} {pos' : Pos} (c : SlX.SCls X.K (B.ct C)) (t : SlotAt X.K (B.ct C) f m) (ho : PE X o (tVar i)) (he : PD X B e r) (hs : swapsWith e (some (.Attribute o f pos')) pos.line X.env = pure false := by rfl) : PSD X B (.Assign [.Attribute o f pos'] e pos) (dSelf i m C r) := by
  obtain ⟨p, h⟩ := t.ex
  exact psd_self c h ho he hs
end
theorem get_list {X : Cx} : PGet X (fun o i H Q => ∃ p xs j v, o = .ref p ∧ i = .int ((j : Nat) : Int) ∧ SqL X.K H p xs ∧ xs[j]? = some v ∧ Q v H) := by
  intro pins s σ H o i ov iv Q I ro ri h
  obtain ⟨p, xs, j, v, rfl, rfl, hq, e, q⟩ := h
  cases ro
  obtain ⟨t, rfl⟩ := ri
  obtain ⟨its, r, pl, hz⟩ := I.list hq
  obtain ⟨w, ew, rw'⟩ := r.get e
  have hj := (List.getElem?_eq_some_iff.mp e).1
  exact getItem_listL pl.isList (by omega) (by have := line63; omega) ew ⟨v, H, I, rw', q⟩
end DL
namespace DL
open PySem PySem.Spec PyProof.Rows L2 Evl
theorem ups_succ (lo : Int) (n : Nat) : ups lo (n + 1) = .int lo :: ups (lo + 1) n := by
  unfold ups
  rw [List.range_succ_eq_map, List.map_cons, List.map_map]
  congr 1
  · simp
  · apply List.map_congr_left
    intro k _
    show D.int _ = D.int _
    congr 1
    simp only [Nat.succ_eq_add_one]
    omega
theorem atI_pos {α : Type} {xs : List α} {i : Int} (h0 : 0 ≤ i) (h1 : i < xs.length) : atI xs i = some (xs[i.toNat]'(by omega)) := by
  have e : i = ((i.toNat : Nat) : Int) := by omega
  have h : xs[i.toNat]? = some (xs[i.toNat]'(by omega)) := List.getElem?_eq_getElem _
  have := atI_nat h
  rw [← e] at this
  exact this
theorem atI_q {α : Type} {xs : List α} {i : Int} {v : α} (h0 : 0 ≤ i) (h : xs[i.toNat]? = some v) : atI xs i = some v := by
  have e : i = ((i.toNat : Nat) : Int) := by omega
  rw [e]
  exact atI_nat h
theorem cut_to {α : Type} (xs : List α) (n : Nat) : cut xs none (some (n : Int)) = xs.take n := by
  unfold cut
  rw [HT.sIx_none, HT.sIx_nat, List.drop_zero, Nat.sub_zero]
  by_cases h : n ≤ xs.length
  · rw [Nat.min_eq_left h]
  · rw [Nat.min_eq_right (by omega), List.take_length, List.take_of_length_le (by omega)]
theorem cut_from {α : Type} (xs : List α) (n : Nat) : cut xs (some (n : Int)) none = xs.drop n := by
  unfold cut
  rw [HT.sIx_none, HT.sIx_nat]
  by_cases h : n ≤ xs.length
  · rw [Nat.min_eq_left h, List.take_of_length_le (by simp)]
  · rw [Nat.min_eq_right (by omega), Nat.sub_self, List.take_zero, List.drop_of_length_le (by omega)]
section
variable {α : Type} {a b c d e f g h : α} {xs : List α}
theorem atI0 : atI (a :: xs) 0 = some a := atI_nat (j := 0) rfl
theorem atI1 : atI (a :: b :: xs) 1 = some b := atI_nat (j := 1) rfl
theorem atI2 : atI (a :: b :: c :: xs) 2 = some c := atI_nat (j := 2) rfl
theorem atI3 : atI (a :: b :: c :: d :: xs) 3 = some d := atI_nat (j := 3) rfl
theorem atI4 : atI (a :: b :: c :: d :: e :: xs) 4 = some e := atI_nat (j := 4) rfl
theorem atI5 : atI (a :: b :: c :: d :: e :: f :: xs) 5 = some f := atI_nat (j := 5) rfl
theorem atI6 : atI (a :: b :: c :: d :: e :: f :: g :: xs) 6 = some g := atI_nat (j := 6) rfl
theorem atI7 : atI (a :: b :: c :: d :: e :: f :: g :: h :: xs) 7 = some h := atI_nat (j := 7) rfl
end
def S__law_alike : FD := fun ds Q => match ds with
  | [x, y] => (x = y ∧ plain x = true ∧ x.wt ≤ 16000000) ∧ Q (.bl true)
  | _ => False
def S__law_take : FD := fun ds Q => match ds with
  | [.bag, .int n] => (0 < n ∧ n.natAbs.log2 < 9000) ∧ ∀ v, 0 ≤ v → v < n → Q (.int v)
  | _ => False
theorem small_log {n : Int} (h0 : 0 < n) (h1 : n < 1000000000) : n.natAbs.log2 < 9000 := by
  have h2 : n.natAbs.log2 < 30 := (Nat.log2_lt (by omega)).mpr (by omega)
  omega
end DL
namespace DL
open PySem PySem.Spec PyProof.Rows L2 Evl
section
variable {K : PySem.W.Frag} {mg : Str → Option Value} {h : Heap} {x qual : Str} {st : Stmt} {ps : List Str} {f C p : Addr} {oc : Value} {od an : Option Addr} {osl : Array (Option Value)} {kV doc pm cdv ct : Value} {rest : List Value}
def mkDef (X : K.In h) (G : h.Ns mainGlobals mg) (b : ∀ (kV doc pm : Value) (an : Option Addr) (cdv ct : Value) (us : List Value), us.length = ps.length → bindArgs (PySem.W.fnOf x x (defArgs st) (defBody st) (defScope st) .none kV doc pm an cdv ct) ⟨us, []⟩ = pure (ps.zip us))
    (a : PySem.W.nsIn K mainGlobals x = some (some (.ref f))) (l : K.lookup f = some ⟨oc, od, .func (PySem.W.fnOf x x (defArgs st) (defBody st) (defScope st) .none kV doc pm an cdv ct), osl⟩) (c : PySem.W.codeIn K cdv x = true) (k : PySem.W.keepIn K (.ref f) = true) : DefAt K mg x st ps :=
  ⟨f, _, fun_mk l c k, (fun_mk l c k).binds b, PySem.W.mg_of X G a⟩
def mkIn (b : ∀ (kV doc pm : Value) (an : Option Addr) (cdv ct : Value) (us : List Value), us.length = ps.length → bindArgs (PySem.W.fnOf x qual (defArgs st) (defBody st) (defScope st) .none kV doc pm an cdv ct) ⟨us, []⟩ = pure (ps.zip us))
    (l : K.lookup f = some ⟨oc, od, .func (PySem.W.fnOf x qual (defArgs st) (defBody st) (defScope st) .none kV doc pm an cdv ct), osl⟩) (c : PySem.W.codeIn K cdv qual = true) (k : PySem.W.keepIn K (.ref f) = true) : InAt K x qual st ps :=
  ⟨f, _, fun_mk l c k, (fun_mk l c k).binds b⟩
theorem ex_def (X : K.In h) (G : h.Ns mainGlobals mg) (b : ∀ (kV doc pm : Value) (an : Option Addr) (cdv ct : Value) (us : List Value), us.length = ps.length → bindArgs (PySem.W.fnOf x x (defArgs st) (defBody st) (defScope st) .none kV doc pm an cdv ct) ⟨us, []⟩ = pure (ps.zip us))
    (a : PySem.W.nsIn K mainGlobals x = some (some (.ref f))) (l : K.lookup f = some ⟨oc, od, .func (PySem.W.fnOf x x (defArgs st) (defBody st) (defScope st) .none kV doc pm an cdv ct), osl⟩) (c : PySem.W.codeIn K cdv x = true) (k : PySem.W.keepIn K (.ref f) = true) : Nonempty (DefAt K mg x st ps) := ⟨mkDef X G b a l c k⟩
/-- the law's own def: bound in every world -/
theorem ex_law {y : Str} (X : K.In h) (G : h.Ns mainGlobals mg) (b : ∀ (kV doc pm : Value) (an : Option Addr) (cdv ct : Value) (us : List Value), us.length = [y].length → bindArgs (PySem.W.fnOf x x (defArgs st) (defBody st) (defScope st) .none kV doc pm an cdv ct) ⟨us, []⟩ = pure ([y].zip us))
    (a : PySem.W.nsIn K mainGlobals x = some (some (.ref f))) (l : K.lookup f = some ⟨oc, od, .func (PySem.W.fnOf x x (defArgs st) (defBody st) (defScope st) .none kV doc pm an cdv ct), osl⟩) (c : PySem.W.codeIn K cdv x = true) (k : PySem.W.keepIn K (.ref f) = true) :
    ∃ t : DefAt K mg x st [y], ∀ (s : Shared) (v : Value), BindsTo s t.fd ⟨[v], []⟩ [(y, v)] := ⟨mkDef X G b a l c k, fun _ v => .of_eq (b kV doc pm an cdv ct [v] rfl)⟩
theorem ex_meth (b : ∀ (kV doc pm : Value) (an : Option Addr) (cdv ct : Value) (us : List Value), us.length = ps.length → bindArgs (PySem.W.fnOf x qual (defArgs st) (defBody st) (defScope st) .none kV doc pm an cdv ct) ⟨us, []⟩ = pure (ps.zip us))
    (a : PySem.W.findIn K (.ref C) x = some (some (.ref f))) (i : PySem.W.isFn K (.ref f) = true) (l : K.lookup f = some ⟨oc, od, .func (PySem.W.fnOf x qual (defArgs st) (defBody st) (defScope st) .none kV doc pm an cdv ct), osl⟩) (c : PySem.W.codeIn K cdv qual = true) (k : PySem.W.keepIn K (.ref f) = true) :
    ∃ t : InAt K x qual st ps, Meth K C x t.f := ⟨mkIn b l c k, a, i, k⟩
theorem ex_slot {i : Nat} (a : PySem.W.findIn K (.ref C) x = some (some (.ref p))) (g : PySem.W.specialIn K (.ref p) "__get__" = some (some (.builtin "member_descriptor.__get__"))) (tk : PySem.W.takesIn K (.ref p) = some true) (ty : PySem.W.typeIn K (.ref p) = some (.type "member_descriptor")) (ix : PySem.W.slotIn K p C = some i) (lt : i < 1000) : SlotAt K C x i := ⟨p, a, g, tk, ty, ix, lt⟩
end
end DL
namespace DL
open PySem PySem.Spec PyProof.Rows L2 Evl
section
variable {X : Cx} {B : Bx} {e : Expr} {r : DE} {pos : Pos} {C : Nat}
theorem Owns.len {K : PySem.W.Frag} {G H : Hp} : ∀ {vs : List V} {xs : List OD} {f : List Addr}, Owns K B G H vs xs f → vs.length = xs.length
  | _, _, _, .nil => rfl
  | _, _, _, .cons _ t => by rw [List.length_cons, List.length_cons, Owns.len t]
theorem Owns.append {K : PySem.W.Frag} {G H : Hp} : ∀ {vs ws : List V} {xs ys : List OD} {f g : List Addr}, Owns K B G H vs xs f → Owns K B G H ws ys g → Owns K B G H (vs ++ ws) (xs ++ ys) (f ++ g)
  | _, _, _, _, _, _, .nil, s => s
  | _, _, _, _, _, _, .cons h t, s => by rw [List.append_assoc]; exact .cons h (Owns.append t s)
/-- what stands behind the top is kept -/
theorem Owns.past {K : PySem.W.Frag} {G H : Hp} {vs : List V} {xs : List OD} {f : List Addr} {p : Addr} {ho : HO} (h : Owns K B G H vs xs f) (hp : p ∉ f) : Owns K B G (upd H p ho) vs xs f := h.keep (Ex.refl G) fun q hq => ⟨upd_ne fun e => hp (e ▸ hq), rfl⟩
def downs (lo : Int) (n : Nat) : List D := (List.range n).map fun k : Nat => D.int (lo - (k : Int))
def iR3 (ra : DA) : DA := fun δ Q => ra δ fun ds => match ds with
  | [.int a, .int b, .int c] => (c = -1 ∧ -(2 ^ 62) ≤ a ∧ a < 2 ^ 62 ∧ -(2 ^ 62) ≤ b ∧ b < 2 ^ 62) ∧ Q (downs a (a - b).toNat)
  | _ => False
theorem itd_down {K : PySem.W.Frag} {G : Hp} {lo : Int} {n : Nat} : ItD K B (Itc lo (-1) n) G (downs lo n) where
  go := fun i G1 H e j h => by
    have : (downs lo n).length = n := by simp [downs]
    show i < n
    omega
  yld := fun i G1 H x H' d e j h hd => by
    obtain ⟨rfl, rfl⟩ := h
    refine ⟨G1, Gr.refl j, ?_⟩
    unfold downs at hd
    rw [List.getElem?_map] at hd
    cases hr : (List.range n)[i]? with
    | none => rw [hr] at hd; cases hd
    | some k =>
      rw [hr] at hd
      cases hd
      have hk := List.getElem?_eq_some_iff.mp hr
      obtain ⟨h1, h2⟩ := hk
      rw [List.getElem_range] at h2
      subst h2
      have e : lo + (i : Int) * -1 = lo - (i : Int) := by omega
      rw [e]
      exact .int _
  stop := fun i G1 H e j h => by
    have : (downs lo n).length = n := by simp [downs]
    show n ≤ i
    omega
theorem pid_r3 {tg a b c : Expr} {ra : DA} {p : Pos} (hg : Gl X "range") (hm : X.mg "range" = none) (ha : PAD X B [a, b, c] ra) (hs : starEach [a, b, c] X.env = (false, eval a X.env) :: starEach [b, c] X.env := by rfl) (hpl : (backTo pos (starEach [b, c] X.env)).any (·.1) = false := by rfl) :
    PID X B tg (.Call (.Name "range" p) [a, b, c] [] pos) (iR3 ra) :=
  ⟨fun pins s σ H R I h => (pi_range3 (tg := tg) hg hm ha hs hpl).run pins s σ H R I (by
    obtain ⟨H0, G, δ, Q, j, st, hr, k⟩ := h
    refine ⟨H0, G, δ, _, j, st, hr, fun ds vs G2 H2 q2 g2 h2 => ?_⟩
    cases h2 with
    | nil => exact q2.elim
    | cons h3 h4 =>
      cases h3 with
      | int n =>
        cases h4 with
        | nil => exact q2.elim
        | cons h5 h6 =>
          cases h5 with
          | int m =>
            cases h6 with
            | nil => exact q2.elim
            | cons h7 h8 =>
              cases h7 with
              | int l =>
                cases h8 with
                | cons _ _ => exact q2.elim
                | nil =>
                  obtain ⟨⟨e1, b1, b2, b3, b4⟩, q2⟩ := q2
                  subst e1
                  exact ⟨n, m, -1, _, rfl, RgC.neg b1 b2 b3 b4, k _ _ G2 H2 q2 g2 itd_down⟩
              | _ => exact q2.elim
          | _ => exact q2.elim
      | _ => exact q2.elim)⟩
end
end DL
namespace DL
open PySem PySem.Spec PyProof.Rows L2 Evl
end DL
namespace DL
open PySem PySem.Spec PyProof.Rows L2 Evl
def strVals : List Value → Option (List Str)
  | [] => some []
  | .str x _ :: r => (strVals r).map (x :: ·)
  | _ :: _ => none
def cTup (xs : List Str) : D := .ktup (xs.map .str)
theorem strVals_ok {K : PySem.W.Frag} {B : Bx} {G : Hp} : ∀ {us : List Value} {xs : List Str}, strVals us = some xs → Vals (xs.map V.str) us ∧ Dats K B G (xs.map V.str) (xs.map .str)
  | [], xs, h => by cases h; exact ⟨.nil, .nil⟩
  | .str x t :: r, xs, h => by
    have h : (strVals r).map (x :: ·) = some xs := h
    cases e : strVals r with
    | none => rw [e] at h; cases h
    | some ys =>
      rw [e] at h
      cases h
      obtain ⟨h1, h2⟩ := strVals_ok (K := K) (B := B) (G := G) e
      exact ⟨.cons ⟨t, rfl⟩ h1, .cons (.str x) h2⟩
  | .none :: _, _, h => nomatch h
  | .bool _ :: _, _, h => nomatch h
  | .int _ _ :: _, _, h => nomatch h
  | .ref _ :: _, _, h => nomatch h
theorem ex_tupS {K : PySem.W.Frag} {mg : Str → Option Value} {h : Heap} {x : Str} {p : Addr} {o : Obj} {its : Array Value} {n : Nat} {xs : List Str} (X : K.In h) (G : h.Ns mainGlobals mg) (a : PySem.W.nsIn K mainGlobals x = some (some (.ref p))) (l : K.lookup p = some o) (c : o.cls = .type "tuple") (d : o.data = .seq its n)
    (z : its.size ≤ sizeLine) (v : strVals its.toList = some xs) : ∃ p, mg x = some (.ref p) ∧ ∀ B G, Dat K B G (.ref p) (cTup xs) :=
  ⟨p, PySem.W.mg_of X G a, fun B G => by
    obtain ⟨h1, h2⟩ := strVals_ok (K := K) (B := B) (G := G) v
    exact .ktup (.inr ⟨o, its, n, l, c, d, z, h1⟩) h2⟩
theorem room_u1 {k : Nat} {A : Around} (r : Room k A) : A.units + 1 < cLine := by have := r.un; omega
theorem op_notIn_d {X : Cx} {B : Bx} : OpR X (compareOp .NotIn) (rLift X.K B (oIn true)) := by
  intro pins s σ H x y v u P I rx ry q
  obtain ⟨G, dx, dy, Q, j, hx, hy, hq, k⟩ := q
  cases hy with
  | str z =>
    cases hx with
    | str w =>
      have hq : (match w.cps.toList with | [c] => Q (.bl (!decide (c ∈ z.cps.toList))) | _ => False) := hq
      cases e : w.cps.toList with
      | nil => rw [e] at hq; exact hq.elim
      | cons c r =>
        cases r with
        | cons _ _ => rw [e] at hq; exact hq.elim
        | nil =>
          rw [e] at hq
          exact op_notIn_sign pins s σ H _ _ v u P I rx ry ⟨c, z, by rw [sign_of e], rfl, k _ _ G H hq (Gr.refl j) (.bl _)⟩
    | _ => exact hq.elim
  | lst h1 t1 =>
    obtain ⟨⟨f1, f2⟩, hq⟩ := hq
    refine op_notIn_seq pins s σ H _ _ v u P I rx ry ⟨_, _, rfl, .inl (sq_of (j.ex _ _ h1)), flat_v hx f1, flats_v t1 f2, ?_⟩
    have e := in_v hx f1 t1 f2
    rw [e]
    exact k _ _ G H hq (Gr.refl j) (.bl _)
  | tup h1 t1 =>
    obtain ⟨⟨f1, f2⟩, hq⟩ := hq
    refine op_notIn_seq pins s σ H _ _ v u P I rx ry ⟨_, _, rfl, .inr (tx j.ex h1), flat_v hx f1, flats_v t1 f2, ?_⟩
    have e := in_v hx f1 t1 f2
    rw [e]
    exact k _ _ G H hq (Gr.refl j) (.bl _)
  | ktup h1 t1 =>
    obtain ⟨⟨f1, f2⟩, hq⟩ := hq
    refine op_notIn_seq pins s σ H _ _ v u P I rx ry ⟨_, _, rfl, .inr (ex_t j.ex h1), flat_v hx f1, flats_v t1 f2, ?_⟩
    have e := in_v hx f1 t1 f2
    rw [e]
    exact k _ _ G H hq (Gr.refl j) (.bl _)
  | _ => exact hq.elim
/-- a comprehension over what a list of one's own tells -/
theorem lc_of {α : Type} {i : Nat} {te : DE} {δ : DS} {Q : List D → Prop} (g h : α → D) : ∀ (xs : List α) (acc : List D), (∀ x ∈ xs, ∀ R : D → Prop, R (h x) → te (δ.set i (some (.sh (g x)))) R) → Q (acc ++ xs.map h) → lcD (gN i) dYes te δ Q (xs.map g) acc
  | [], acc, _, q => by
    rw [List.map_nil, List.append_nil] at q
    exact q
  | x :: xs, acc, hx, q => by
    show te (δ.set i (some (.sh (g x)))) fun y => lcD (gN i) dYes te δ Q (xs.map g) (acc ++ [y])
    refine hx x List.mem_cons_self _ (lc_of g h xs _ (fun z hz => hx z (List.mem_cons_of_mem _ hz)) ?_)
    rw [List.append_assoc]
    exact q
end DL
namespace DL
open PySem PySem.Spec PyProof.Rows L2 Evl
def EvD (r : DE) (δ : DS) (P : D → Prop) : Prop := ∀ Q : D → Prop, (∀ d, P d → Q d) → r δ Q
section
variable {δ : DS} {P P1 P2 : D → Prop} {r r1 r2 : DE} {ra : DA} {W : DEnds} {u : DTS} {i j : Nat}
theorem ev_var {d : D} (h : δ[i]? = some (some (.sh d))) (p : P d) : EvD (dVar i) δ P := fun Q k => by
  unfold dVar
  rw [h]
  exact k d p
theorem ev_c {d : D} (p : P d) : EvD (dC d) δ P := fun Q k => k d p
theorem EvD.mono (h : EvD r δ P1) (w : ∀ d, P1 d → P d) : EvD r δ P := fun Q k => h Q fun d p => k d (w d p)
end
theorem ints_v {K : PySem.W.Frag} {B : Bx} {G : Hp} : ∀ {ns : List Int} {vs : List V}, Dats K B G vs (ns.map D.int) → vs = ns.map V.int
  | [], _, .nil => rfl
  | _ :: _, _, .cons h t => by
    cases h
    rw [ints_v t]
    rfl
def cMaxL : FD := fun ds Q => match ds with
  | [.lst xs] => ∃ ns : List Int, xs = ns.map .int ∧ 0 < ns.length ∧ ∀ m, m ∈ ns → (∀ y, y ∈ ns → y ≤ m) → Q (.int m)
  | _ => False
section
variable {X : Cx} {B : Bx}
theorem call_maxL_d (hc : X.calm = true) : CallR X (.builtin "max") (cLift X.K B cMaxL) := by
  intro pins s σ H vs us P I rv q
  obtain ⟨G, ds, Q, j, hd, hq, k⟩ := q
  cases hd with
  | nil => exact hq.elim
  | cons h1 h2 =>
    cases h1 with
    | lst hp t =>
      cases h2 with
      | cons _ _ => exact hq.elim
      | nil =>
        obtain ⟨ns, rfl, hl, hm⟩ := hq
        have e := ints_v t
        subst e
        exact cr_max hc pins s σ H _ us P I rv ⟨_, ns, rfl, sq_of (j.ex _ _ hp), hl, fun m h3 h4 => k _ _ G H (hm m h3 h4) (Gr.refl j) (.int _)⟩
    | _ => exact hq.elim
end
end DL
namespace DL
open PySem PySem.Spec PyProof.Rows L2 Evl
open Sem (wp)
def accL (val : Nat → List Value) (b : List Value) : Nat → List Value
  | 0 => b
  | i + 1 => accL val b i ++ val i
section
variable {prog : Program} {w : World} {A : Around} {R : Result → Shared → Prop} {I : Addr} {fp wr : List Addr} {n : Nat} {P : Nat → Value → Prop} {St : Nat → Heap → Prop}
abbrev IsLs (h : Heap) (a : Addr) (xs : List Value) (n : Nat) : Prop := h.get? a = some { cls := .type "list", data := .seq xs.toArray n }
theorem sumL_loop (W : Walks prog w A.in1 I fp wr n P St) (h0 : Heap) (val : Nat → List Value) (b : Addr) (bs : List Value) (hval : ∀ i v, P i v → ∃ p m, v = .ref p ∧ IsLs h0 p (val i) m) (S : Addr) (hSf : S ∉ fp) (hold : ∀ c o, h0.get? c = some o → c ∉ wr ∧ c ≠ S) (hSge : h0.objs.size ≤ S) (hwr : ∀ c ∈ wr, c < S)
    (hz : (accL val bs n).length ≤ sizeLine) (hmono : ∀ i, i ≤ n → (accL val bs i).length ≤ (accL val bs n).length) :
    ∀ (k i : Nat) (s : Shared) (t : Addr) (c m : Nat) (stage : Int), n - i = k → i ≤ n → St i s.heap → s.heap.get? S = some { cls := .type "list", dict := none, data := .seq #[.ref t] c, slots := #[] } → IsLs s.heap t (accL val bs i) m → t ∉ wr → t ≠ S →
    (∀ c o, h0.get? c = some o → s.heap.get? c = some o) → ((i = 0 ∧ t = b) ∨ (0 < i ∧ h0.objs.size ≤ t)) → stage = 2 →
    (∀ h' tk t' m', (∀ c o, h0.get? c = some o → h'.get? c = some o) → IsLs h' t' (accL val bs n) m' → ((n = 0 ∧ t' = b) ∨ (0 < n ∧ h0.objs.size ≤ t')) → R (.ok (.ret (.ref t'))) { s with heap := h', toks := tk }) →
    codeAny (model prog w) A (.builtin "sum.loop" ⟨[.ref I, .ref S, rawInt stage, rawInt 0], []⟩) R s := by
  have hSw : S ∉ wr := fun h => hSf (W.sub _ h)
  intro k
  induction k with
  | zero =>
    intro i s t c m stage hk hi hst hS ht htw htS keep hor hstage hR
    have hin : i = n := by omega
    subst hin
    subst hstage
    refine codeAny_builtin F.entry_sum_loop ?_
    rw [Around.under_plainId F.plain_sum_loop _]
    show wpAny _ A.in1 (seqItems? (.ref S) >>= _) _ _ s
    refine wpAny_bind (wpAny_seqItems hS rfl ?_)
    show wpAny _ A.in1 (tryCatch (pyNext (.ref I)) _ >>= _) _ _ s
    refine wpAny_bind (wpAny_tryCatch (W.done s _ _ hst fun h' tk hk' => ?_))
    exact wpAny_pure (hR h' tk t m (fun c o e => hk' c o (hold c o e).1 (keep c o e)) (hk' t _ htw ht) hor)
  | succ k ih =>
    intro i s t c m stage hk hi hst hS ht htw htS keep hor hstage hR
    subst hstage
    have hlt : i < n := by omega
    refine codeAny_builtin F.entry_sum_loop ?_
    rw [Around.under_plainId F.plain_sum_loop _]
    show wpAny _ A.in1 (seqItems? (.ref S) >>= _) _ _ s
    refine wpAny_bind (wpAny_seqItems hS rfl ?_)
    show wpAny _ A.in1 (tryCatch (pyNext (.ref I)) _ >>= _) _ _ s
    refine wpAny_bind (wpAny_tryCatch (W.item i s _ _ hlt hst fun v h' tk hP hst' hk' => ?_))
    obtain ⟨p, mp, rfl, hp⟩ := hval i v hP
    have hS' := hk' S _ hSw hS
    have ht' := hk' t _ htw ht
    have hp' := hk' p _ (hold p _ hp).1 (keep p _ hp)
    have keep' : ∀ c o, h0.get? c = some o → h'.get? c = some o := fun c o e => hk' c o (hold c o e).1 (keep c o e)
    have hq : S < h'.objs.size := Heap.lt_size hS'
    have ea : (accL val bs i).toArray ++ (val i).toArray = (accL val bs (i + 1)).toArray := by simp [accL]
    have hlen : (accL val bs i).toArray.size + (val i).toArray.size ≤ sizeLine := by
      have h1 := hmono (i + 1) hlt
      have h2 : (accL val bs (i + 1)).length = (accL val bs i).length + (val i).length := by simp [accL]
      simp only [List.size_toArray]
      omega
    show wpAny _ A.in1 ((holding [Value.ref p] (binaryOp .Add (.ref t) (.ref p))).attempt >>= _) _ _ _
    refine wpAny_bind (wpAny_attempt (wpAny_holding (PySem.P.add_list (s := { s with heap := h', toks := tk }) ht' hp' ?_ hlen)))
    rw [ea]
    have hS2 : (h'.push { cls := .type "list", data := .seq (accL val bs (i + 1)).toArray }).get? S = _ := Heap.get?_push_of_some _ hS'
    show wpAny _ A.in1 (updateSeq S (fun _ => #[.ref h'.objs.size]) >>= _) _ _ _
    refine wpAny_bind ?_
    refine wpAny_updateSeq hS2 rfl ?_
    have hS3 := Heap.get?_update_self (Obj.mapSeq fun _ => #[Value.ref h'.objs.size]) hS2 rfl
    refine wpAny_bind (wpAny_letGo ?_)
    refine wpAny_bind ?_
    have up : ∀ (b : Addr) (o : Obj), b ≠ S → h'.get? b = some o → (((h'.push { cls := .type "list", data := .seq (accL val bs (i + 1)).toArray }).update S (Obj.mapSeq fun _ => #[Value.ref h'.objs.size])).update S (Obj.mapSeq fun _ => #[Value.ref h'.objs.size])).get? b = some o := fun b o hb e =>
      (Heap.get?_update_other _ _ (Ne.symm hb)).trans ((Heap.get?_update_other _ _ (Ne.symm hb)).trans (Heap.get?_push_of_some _ e))
    refine wpAny_updateSeq hS3 rfl (wpAny_pure ⟨plainId_quiet F.plain_sum_loop _, ih (i + 1) _ h'.objs.size _ 0 2 (by omega) hlt (W.frame _ _ _ hst' fun b hb o e => up b o (fun h : b = S => hSf (by rw [← h]; exact hb)) e) (Heap.get?_update_self _ hS3 rfl) ?_ (fun z => Nat.lt_irrefl _ (Nat.lt_trans hq (hwr _ z))) (Nat.ne_of_gt hq) (fun c o e => up c o (hold c o e).2 (keep' c o e)) (.inr ⟨Nat.succ_pos _, Nat.le_trans hSge (Nat.le_of_lt hq)⟩) rfl fun h'' tk'' t'' m'' a1 a2 a3 => ?_⟩)
    · exact (Heap.get?_update_other _ _ (Nat.ne_of_lt hq)).trans ((Heap.get?_update_other _ _ (Nat.ne_of_lt hq)).trans (Heap.get?_push_size _ rfl))
    · exact hR h'' tk'' t'' m'' a1 a2 a3
end
theorem args_sum2 (a b : Value) : argsOk "sum" ⟨[a, b], []⟩ := by unfold argsOk; kernel_rfl
theorem sub_list_str' : isSubtype (.type "list") (.type "str") = pure false := by rw [isSubtype_type]; kernel_rfl
theorem sub_list_bytes' : isSubtype (.type "list") (.type "bytes") = pure false := by rw [isSubtype_type]; kernel_rfl
theorem sub_list_bytearray' : isSubtype (.type "list") (.type "bytearray") = pure false := by rw [isSubtype_type]; kernel_rfl
theorem isLs_list {h : Heap} {a : Addr} {xs : List Value} {n : Nat} (e : IsLs h a xs n) : h.IsList a xs.toArray := ⟨_, e, rfl, n, rfl⟩
theorem accL_mono (val : Nat → List Value) (b : List Value) (i : Nat) : ∀ k, (accL val b i).length ≤ (accL val b (i + k)).length
  | 0 => Nat.le_refl _
  | k + 1 => by
    have := accL_mono val b i k
    have e : (accL val b (i + (k + 1))).length = (accL val b (i + k)).length + (val (i + k)).length := by
      show (accL val b (i + k) ++ val (i + k)).length = _
      rw [List.length_append]
    omega
theorem sumL_raw {prog : Program} {w : World} {A : Around} {E : Value → Shared → Prop} {s : Shared} {l b : Addr} {its bs : List Value} {m nb : Nat} {Q : Value → Shared → Prop} (val : Nat → List Value) (hh : A.handled = none) (hl : IsLs s.heap l its m) (hb : IsLs s.heap b bs nb)
    (hval : ∀ i v, its[i]? = some v → ∃ p m, v = .ref p ∧ IsLs s.heap p (val i) m) (hz : (accL val bs its.length).length ≤ sizeLine)
    (h : ∀ h' tk t' m', (∀ c o, s.heap.get? c = some o → h'.get? c = some o) → IsLs h' t' (accL val bs its.length) m' → ((its.length = 0 ∧ t' = b) ∨ (0 < its.length ∧ s.heap.objs.size ≤ t')) → Q (.ref t') { s with heap := h', toks := tk }) :
    wpAny (model prog w) A (call (.builtin "sum") [.ref l, .ref b]) Q E s := by
  refine call_function_tree F.kind_sum F.plain_sum F.entry_sum (args_sum2 _ _) ?_
  unfold Builtin.«sum»
  simp only [List.length_cons, List.length_nil]
  rw [if_neg (by decide)]
  refine wpAny_bind (wpAny_of_eq (show Builtin.Builtins.bindParams "sum" ["start"] 0 ⟨[.ref b], []⟩ = pure [some (.ref b)] from rfl) ?_)
  have hlt : l < s.heap.objs.size := Heap.lt_size hl
  refine wpAny_bind (wpAny_pyIter_list (isLs_list hl) ?_)
  refine wpAny_bind (wpAny_pure ?_)
  simp only [List.forIn_cons, List.forIn_nil]
  have hty : ∀ s' : Shared, s'.heap = s.heap.push { cls := .type "list_iterator", data := .fields #[.ref l, .int 0 0] } → s'.TypeIs (.ref b) "list" := fun s' e => Heap.IsList.typeIs (isLs_list (n := nb) (xs := bs) (by rw [IsLs, e]; exact Heap.get?_push_of_some _ hb))
  refine wpAny_bind (wpAny_bind (wpAny_bind (wpAny_isInstance (T := "list") (b := false) (hty _ rfl) sub_list_str' ?_)))
  simp only [Bool.false_eq_true, if_false]
  refine wpAny_pure (wpAny_bind (wpAny_bind (wpAny_isInstance (T := "list") (b := false) (hty _ rfl) sub_list_bytes' ?_)))
  simp only [Bool.false_eq_true, if_false]
  refine wpAny_pure (wpAny_bind (wpAny_bind (wpAny_isInstance (T := "list") (b := false) (hty _ rfl) sub_list_bytearray' ?_)))
  simp only [Bool.false_eq_true, if_false]
  refine wpAny_pure (wpAny_pure ?_)
  refine wpAny_bind (wpAny_newObj_type ?_)
  have hI : l ≠ s.heap.objs.size := Nat.ne_of_lt hlt
  have hsz1 : (s.heap.push { cls := .type "list_iterator", data := .fields #[.ref l, .int 0 0] }).objs.size = s.heap.objs.size + 1 := Heap.size_push ..
  have hst : ((s.heap.push { cls := .type "list_iterator", data := .fields #[.ref l, .int 0 0] }).IsListIter s.heap.objs.size l 0 ∧ (s.heap.push { cls := .type "list_iterator", data := .fields #[.ref l, .int 0 0] }).IsList l its.toArray) := ⟨⟨_, Heap.get?_push_size _ rfl, rfl, rfl⟩, (isLs_list hl).push _⟩
  have W := Walks.list (prog := prog) (w := w) (A := A.in1) hh s.heap.objs.size l hI its.toArray
  refine wpAny_pure ⟨plainId_quiet F.plain_sum_loop _, sumL_loop (n := its.toArray.size) W s.heap val b bs (fun i v hv => hval i v (by simpa using hv)) (s.heap.push { cls := .type "list_iterator", data := .fields #[.ref l, .int 0 0] }).objs.size (fun z => ?_) (fun c o e => ⟨fun z => ?_, ?_⟩) ?_ (fun c z => ?_) (by rw [List.size_toArray]; exact hz) (fun i hi => ?_)
    its.toArray.size 0 _ b _ nb 2 rfl (Nat.zero_le _) (W.frame _ _ _ hst fun c _ o e => Heap.get?_push_of_some _ e) (Heap.get?_push_size _ rfl) (Heap.get?_push_of_some _ (Heap.get?_push_of_some _ hb)) (fun z => ?_) ?_ (fun c o e => Heap.get?_push_of_some _ (Heap.get?_push_of_some _ e)) (.inl ⟨rfl, rfl⟩) rfl fun h' tk t' m' a1 a2 a3 => ?_⟩
  · rw [hsz1] at z
    have : s.heap.objs.size + 1 = s.heap.objs.size ∨ s.heap.objs.size + 1 = l := by simpa using z
    rcases this with z | z
    · exact absurd z (Nat.succ_ne_self _)
    · exact absurd z (Nat.ne_of_gt (Nat.lt_succ_of_lt hlt))
  · have z : c = s.heap.objs.size := by simpa using z
    exact absurd z (Nat.ne_of_lt (Heap.lt_size e))
  · rw [hsz1]; exact Nat.ne_of_lt (Nat.lt_succ_of_lt (Heap.lt_size e))
  · rw [hsz1]; exact Nat.le_succ _
  · have z : c = s.heap.objs.size := by simpa using z
    rw [hsz1, z]; exact Nat.lt_succ_self _
  · obtain ⟨k, hk⟩ : ∃ k, its.toArray.size = i + k := ⟨its.toArray.size - i, by omega⟩
    rw [hk]; exact accL_mono val bs i k
  · have z : b = s.heap.objs.size := by simpa using z
    exact absurd z (Nat.ne_of_lt (Heap.lt_size hb))
  · rw [hsz1]; exact Nat.ne_of_lt (Nat.lt_succ_of_lt (Heap.lt_size hb))
  · have e : its.toArray.size = its.length := by simp
    rw [e] at a2 a3
    exact h h' tk t' m' a1 a2 a3
def seqAt (h : Heap) (v : Option Value) : List Value := match v with
  | some (.ref p) => match h.get? p with
    | some ⟨_, _, .seq a _, _⟩ => a.toList
    | _ => []
  | _ => []
def cSumLL : FD := fun ds Q => match ds with
  | [.lst xs, .lst init] => ∃ xss : List (List D), xs = xss.map .lst ∧ (init ++ xss.flatten).length ≤ sizeLine ∧ Q (.lst (init ++ xss.flatten))
  | _ => False
theorem lists_walk {X : Cx} {B : Bx} {pins : List (Addr × Obj)} {σ : L2.St} {H G : Hp} {s : Shared} (I : Inv X pins σ H s) (j : Jn X.K B G H) : ∀ {xss : List (List D)} {vs : List V} {its : List Value}, Dats X.K B G vs (xss.map D.lst) → Vals vs its →
    (∀ (i : Nat) (v : Value), its[i]? = some v → ∃ (p : Addr) (m : Nat), v = Value.ref p ∧ IsLs s.heap p (seqAt s.heap (its[i]?)) m) ∧ ∃ wss : List (List V), Paired (fun (ws : List V) (v : Value) => Vals ws (seqAt s.heap (some v))) wss its ∧ Dats X.K B G wss.flatten xss.flatten
  | [], _, _, .nil, .nil => ⟨fun i v h => by simp at h, [], .nil, .nil⟩
  | xs :: xss, _, _, .cons h t, .cons r rs => by
    cases h with
    | @lst a ws ds hg hd =>
      obtain ⟨z, li, n, rv, e, ho⟩ := I.lstM (j.ex _ _ hg)
      obtain ⟨ih1, wss, ih2, ih3⟩ := lists_walk I j t rs
      cases r
      have es : seqAt s.heap (some (.ref a)) = li := by
        unfold seqAt
        simp only [ho]
      refine ⟨fun i v hv => ?_, ws :: wss, .cons (by rw [es]; exact rv) ih2, ?_⟩
      · cases i with
        | zero =>
          simp only [List.getElem?_cons_zero, Option.some.injEq] at hv
          subst hv
          exact ⟨a, n, rfl, by rw [List.getElem?_cons_zero, es]; exact ho⟩
        | succ i =>
          simp only [List.getElem?_cons_succ] at hv ⊢
          exact ih1 i v hv
      · rw [List.flatten_cons, List.flatten_cons]
        exact hd.append ih3
theorem vals_acc {h : Heap} {bs : List Value} {vb : List V} (hb : Vals vb bs) : ∀ {wss : List (List V)} {its : List Value}, Paired (fun (ws : List V) (v : Value) => Vals ws (seqAt h (some v))) wss its → ∀ (pre : List Value) (wp : List V), Vals wp (accL (fun i => seqAt h ((pre ++ its)[i]?)) bs pre.length) →
    Vals (wp ++ wss.flatten) (accL (fun i => seqAt h ((pre ++ its)[i]?)) bs (pre ++ its).length)
  | _, _, .nil, pre, wp, hw => by
    simp only [List.flatten_nil, List.append_nil] at hw ⊢
    exact hw
  | _, _, .cons (l₁ := wss) (l₂ := its) (a := ws) (b := v) h1 h2, pre, wp, hw => by
    have e : pre ++ v :: its = (pre ++ [v]) ++ its := by simp
    rw [List.flatten_cons, ← List.append_assoc, e]
    refine vals_acc hb h2 (pre ++ [v]) (wp ++ ws) ?_
    rw [e] at hw
    have el : (pre ++ [v]).length = pre.length + 1 := by simp
    rw [el]
    show Vals (wp ++ ws) (accL _ bs pre.length ++ seqAt h (((pre ++ [v]) ++ its)[pre.length]?))
    have e2 : ((pre ++ [v]) ++ its)[pre.length]? = some v := by
      rw [← e, List.getElem?_append_right (Nat.le_refl _), Nat.sub_self]
      rfl
    rw [e2]
    exact hw.append h1
theorem call_sumLL_d {X : Cx} {B : Bx} (hc : X.calm = true) : CallR X (.builtin "sum") (cLift X.K B cSumLL) := by
  intro pins s σ H vs us P I rv q
  obtain ⟨G, ds, Q, j, hd, hq, k⟩ := q
  match ds, hd, hq with
  | [.lst xs, .lst init], .cons (.lst (a := l) (xs := v1) hp t1) (.cons (.lst (a := b) (xs := v2) hb t2) .nil), hq =>
    obtain ⟨xss, rfl, hz, hq⟩ := hq
    cases rv with
    | cons r1 rv =>
      cases rv with
      | cons r2 rv =>
        cases rv
        cases r1
        cases r2
        obtain ⟨z1, its, n1, rv1, e1, o1⟩ := I.lstM (j.ex _ _ hp)
        obtain ⟨z2, bs, n2, rv2, e2, o2⟩ := I.lstM (j.ex _ _ hb)
        obtain ⟨w1, wss, w2, w3⟩ := lists_walk I j t1 rv1
        have va := vals_acc (h := s.heap) rv2 w2 [] v2 rv2
        rw [List.nil_append] at va
        have hl : (accL (fun i => seqAt s.heap (its[i]?)) bs its.length).length ≤ sizeLine := by
          rw [← va.length, (t2.append w3).len]
          exact hz
        refine sumL_raw (fun i => seqAt s.heap (its[i]?)) (I.ok.hd hc) o1 o2 w1 hl fun h' tk t' m' a1 a2 a3 => ?_
        rcases a3 with ⟨z, rfl⟩ | ⟨z, hge⟩
        · have : its = [] := List.eq_nil_of_length_eq_zero z
          subst this
          cases w2
          have ex : xss.flatten = [] := List.eq_nil_of_length_eq_zero w3.len.symm
          rw [ex, List.append_nil] at hq
          exact ⟨.ref t', H, I.kept a1, rfl, k _ _ G H hq (Gr.refl j) (.lst hb t2)⟩
        · have hn : H t' = none := I.hok.fresh hge
          refine ⟨.ref t', _, I.laid (o := .lst (v2 ++ wss.flatten)) a1 hge ⟨by rw [(t2.append w3).len]; exact hz, _, m', va, a2⟩, rfl, ?_⟩
          exact k _ _ (upd G t' _) _ hq (Gr.new j hn) (.lst upd_same ((t2.append w3).mono (Ex.new (fresh_back j.ex hn))))
  | [], .nil, hq => exact hq.elim
end DL
namespace DL
open PySem PySem.Spec PyProof.Rows L2 Evl
theorem lc_fof {α : Type} {i : Nat} {tt : DT} {te : DE} {δ : DS} {Q : List D → Prop} (g h : α → D) (p : α → Bool) : ∀ (xs : List α) (acc : List D), (∀ x ∈ xs, ∀ R : Bool → Prop, R (p x) → tt (δ.set i (some (.sh (g x)))) R) → (∀ x ∈ xs, p x = true → ∀ R : D → Prop, R (h x) → te (δ.set i (some (.sh (g x)))) R) →
    Q (acc ++ (xs.filter p).map h) → lcD (gN i) tt te δ Q (xs.map g) acc
  | [], acc, _, _, q => by
    rw [List.filter_nil, List.map_nil, List.append_nil] at q
    exact q
  | x :: xs, acc, h1, h2, q => by
    show tt (δ.set i (some (.sh (g x)))) fun b => if b = true then te (δ.set i (some (.sh (g x)))) fun y => lcD (gN i) tt te δ Q (xs.map g) (acc ++ [y]) else lcD (gN i) tt te δ Q (xs.map g) acc
    refine h1 x List.mem_cons_self _ ?_
    cases hp : p x with
    | true =>
      rw [if_pos rfl]
      refine h2 x List.mem_cons_self hp _ (lc_fof g h p xs _ (fun z hz => h1 z (List.mem_cons_of_mem _ hz)) (fun z hz => h2 z (List.mem_cons_of_mem _ hz)) ?_)
      rw [List.filter_cons, if_pos hp] at q
      rw [List.append_assoc]
      exact q
    | false =>
      rw [if_neg Bool.false_ne_true]
      refine lc_fof g h p xs _ (fun z hz => h1 z (List.mem_cons_of_mem _ hz)) (fun z hz => h2 z (List.mem_cons_of_mem _ hz)) ?_
      rw [List.filter_cons, if_neg (by rw [hp]; exact Bool.false_ne_true)] at q
      exact q
end DL
namespace DL
open PySem PySem.Spec PyProof.Rows L2 Evl
def iteS (b : Bool) (t u : DTS) (W : DEnds) (δ : DS) : Prop := if b = true then t W δ else u W δ
def iteE (b : Bool) (r u : DE) (δ : DS) (Q : D → Prop) : Prop := if b = true then r δ Q else u δ Q
def anE (x : D) (r : DE) (δ : DS) (Q : D → Prop) : Prop := match x with
  | .bl c => if c = true then r δ Q else Q (.bl false)
  | _ => False
def orE (x : D) (r : DE) (δ : DS) (Q : D → Prop) : Prop := match x with
  | .bl c => if c = true then Q (.bl true) else r δ Q
  | _ => False
def anT (b : Bool) (u : DT) (δ : DS) (Q : Bool → Prop) : Prop := if b = true then u δ Q else Q false
def orT (b : Bool) (u : DT) (δ : DS) (Q : Bool → Prop) : Prop := if b = true then Q true else u δ Q
def notB (b : Bool) (Q : Bool → Prop) : Prop := Q (!b)
def blD (x : D) (Q : Bool → Prop) : Prop := match x with
  | .bl b => Q b
  | _ => False
def seqD (d : D) (Q : List D → Prop) : Prop := match d with
  | .lst xs => Q xs
  | .tup xs => Q xs
  | .str x => Q (chars x)
  | _ => False
def szD (n : Nat) (P : Prop) : Prop := match decide (n ≤ 1000) with
  | true => P
  | false => False
def tupD (d : D) (n : Nat) (K : List D → Prop) : Prop := match d with
  | .tup ds => match decide (ds.length = n) with
    | true => K ds
    | false => False
  | _ => False
def atD (o : Option D) (Q : D → Prop) : Prop := match o with
  | some d => Q d
  | none => False
def atC (o : Option Nat) (Q : D → Prop) : Prop := match o with
  | some c => Q (.str ⟨#[c]⟩)
  | none => False
def ownO (o : Option (Option SD)) (K : V → OD → Prop) : Prop := match o with
  | some (some (.ow v x)) => K v x
  | _ => False
def intO (x : D) (Q : Option Int → Prop) : Prop := match x with
  | .int i => Q (some i)
  | _ => False
def headL (ds : List D) (K : D → List D → Prop) : Prop := match ds with
  | d :: ds => K d ds
  | [] => False
def nilL (ds : List D) (P : Prop) : Prop := match ds with
  | [] => P
  | _ => False
section
variable {δ : DS} {Q : D → Prop} {QL : List D → Prop} {QB : Bool → Prop} {QO : Option Int → Prop} {QS : DS → Prop} {W : DEnds} {r ra rb : DE} {rA : DA} {tc t u : DT} {ts us : DTS} {a b : Int} {x y : Str} {xs ys ds : List D} {p q : Bool} {n : Bool} {lo hi : Option Int} {rlo rhi : DO} {d : D} {i j k : Nat} {o2 : O2} {o1 : O1} {S : FD} {g : DG} {gs : DGs} {P : Prop} {K : List D → Prop} {vs : List Nat}
theorem z_var0 : dVar 0 (some (.sh d) :: δ) Q = Q d := propext Iff.rfl
theorem z_varS {o : Option SD} : dVar (i + 1) (o :: δ) Q = dVar i δ Q := propext Iff.rfl
theorem z_c : dC d δ Q = Q d := propext Iff.rfl
theorem z_nil : dNil δ QL = QL [] := propext Iff.rfl
theorem z_cons : dCons r rA δ QL = r δ fun x => rA δ fun xs => QL (x :: xs) := propext Iff.rfl
theorem z_tup : dTup rA δ Q = rA δ fun ds => szD ds.length (Q (.tup ds)) := propext Iff.rfl
theorem z_lst : fLst rA δ QL = rA δ fun ds => szD ds.length (QL ds) := propext Iff.rfl
theorem z_sz {n : Nat} (h : n ≤ 1000) : szD n P = P := by unfold szD; rw [decide_eq_true h]
theorem z_f : dF rA δ Q = rA δ fun ds => Q (.lst ds) := propext Iff.rfl
theorem z_op : dOp o2 ra rb δ Q = ra δ fun x => rb δ fun y => o2 x y Q := propext Iff.rfl
theorem z_un : dUn o1 ra δ Q = ra δ fun x => o1 x Q := propext Iff.rfl
theorem z_tBl : tBl r δ QB = r δ fun x => blD x QB := propext Iff.rfl
theorem z_bl : blD (.bl p) QB = QB p := propext Iff.rfl
theorem z_tNt : tNt t δ QB = t δ fun b => notB b QB := propext Iff.rfl
theorem z_notT : notB true QB = QB false := propext Iff.rfl
theorem z_notF : notB false QB = QB true := propext Iff.rfl
theorem z_dNt : dNt ra δ Q = ra δ fun x => blD x fun c => notB c fun c => Q (.bl c) := propext Iff.rfl
theorem z_call : dCall S rA δ Q = rA δ fun ds => S ds Q := propext Iff.rfl
theorem z_next : dNext W δ = W.nx δ := propext Iff.rfl
theorem z_seqS : dSeq ts us W δ = ts { W with nx := us W } δ := propext Iff.rfl
theorem z_ret : dRet r W δ = r δ W.rt := propext Iff.rfl
theorem z_gN : gN i d δ QS = QS (δ.set i (some (.sh d))) := propext Iff.rfl
theorem z_gsNil : gsNil ds δ QS = nilL ds (QS δ) := propext Iff.rfl
theorem z_gsCons : gsCons g gs ds δ QS = headL ds fun d ds => g d δ fun δ' => gs ds δ' QS := by unfold gsCons headL; rfl
theorem z_headL {K : D → List D → Prop} : headL (d :: ds) K = K d ds := propext Iff.rfl
theorem z_nilL : nilL [] P = P := propext Iff.rfl
theorem z_gT : gT k gs d δ QS = tupD d k fun ds => gs ds δ QS := propext Iff.rfl
theorem z_tupD (h : ds.length = k) : tupD (.tup ds) k K = K ds := by unfold tupD; simp only [h, decide_true]
theorem z_asg : dAsg r g W δ = r δ fun d => g d δ W.nx := propext Iff.rfl
theorem z_set : dSet i r W δ = r δ fun d => W.nx (δ.set i (some (.sh d))) := propext Iff.rfl
theorem z_ownO0 {K : V → OD → Prop} {v : V} {x : OD} : ownO (some (.ow v x) :: δ)[0]? K = K v x := propext Iff.rfl
theorem z_ownOS {K : V → OD → Prop} {o : Option SD} : ownO (o :: δ)[i + 1]? K = ownO δ[i]? K := by rw [List.getElem?_cons_succ]
theorem z_frz : dFrz i ts W δ = ownO δ[i]? fun _ x => ts W (δ.set i (some (.sh x.toD))) := propext Iff.rfl
theorem z_for : dFor rA g ts W δ = rA δ fun ds => forD g ts W ds δ := propext Iff.rfl
theorem z_lc {te : DE} {tt : DT} : fLc rA g tt te vs δ QL = rA δ fun ds => ds.length ≤ sizeLine ∧ lcD g tt te (wipeD δ vs) QL ds [] := propext Iff.rfl
theorem z_yes : dYes δ QB = QB true := propext Iff.rfl
theorem z_sl : dSl r rlo rhi δ Q = r δ fun x => rlo δ fun l => rhi δ fun h => oSl x l h Q := propext Iff.rfl
theorem z_noP : noP δ QO = QO none := propext Iff.rfl
theorem z_aP : aP r δ QO = r δ fun x => intO x QO := propext Iff.rfl
theorem z_intO : intO (.int a) QO = QO (some a) := propext Iff.rfl
theorem z_ifS : dIfS tc ts us W δ = tc δ fun b => iteS b ts us W δ := propext Iff.rfl
theorem iteS_t : iteS true ts us W δ = ts W δ := propext Iff.rfl
theorem iteS_f : iteS false ts us W δ = us W δ := propext Iff.rfl
theorem iteS_pos {c : Prop} [Decidable c] (h : c) : iteS (decide c) ts us W δ = ts W δ := by rw [decide_eq_true h]; rfl
theorem iteS_neg {c : Prop} [Decidable c] (h : ¬ c) : iteS (decide c) ts us W δ = us W δ := by rw [decide_eq_false h]; rfl
theorem z_ifE : dIfE tc ra rb δ Q = tc δ fun b => iteE b ra rb δ Q := propext Iff.rfl
theorem iteE_t : iteE true ra rb δ Q = ra δ Q := propext Iff.rfl
theorem iteE_f : iteE false ra rb δ Q = rb δ Q := propext Iff.rfl
theorem z_an : dAn ra rb δ Q = ra δ fun x => anE x rb δ Q := propext Iff.rfl
theorem z_or : dOr ra rb δ Q = ra δ fun x => orE x rb δ Q := propext Iff.rfl
theorem anE_t : anE (.bl true) r δ Q = r δ Q := propext Iff.rfl
theorem anE_f : anE (.bl false) r δ Q = Q (.bl false) := propext Iff.rfl
theorem orE_t : orE (.bl true) r δ Q = Q (.bl true) := propext Iff.rfl
theorem orE_f : orE (.bl false) r δ Q = r δ Q := propext Iff.rfl
theorem z_tan : tAn t u δ QB = t δ fun b => anT b u δ QB := propext Iff.rfl
theorem z_tor : tOrr t u δ QB = t δ fun b => orT b u δ QB := propext Iff.rfl
theorem anT_t : anT true u δ QB = u δ QB := propext Iff.rfl
theorem anT_f : anT false u δ QB = QB false := propext Iff.rfl
theorem orT_t : orT true u δ QB = QB true := propext Iff.rfl
theorem orT_f : orT false u δ QB = u δ QB := propext Iff.rfl
theorem z_seq : iSeq r δ QL = r δ fun d => seqD d QL := propext Iff.rfl
theorem z_seqL : seqD (.lst xs) QL = QL xs := propext Iff.rfl
theorem z_seqT : seqD (.tup xs) QL = QL xs := propext Iff.rfl
theorem z_seqSt : seqD (.str x) QL = QL (chars x) := propext Iff.rfl
theorem z_neg : oNeg (.int a) Q = Q (.int (-a)) := propext Iff.rfl
theorem z_sub : oSub (.int a) (.int b) Q = Q (.int (a - b)) := propext Iff.rfl
theorem z_gt : oGt (.int a) (.int b) Q = Q (.bl (decide (b < a))) := propext Iff.rfl
theorem z_ge : oGe (.int a) (.int b) Q = Q (.bl (decide (b ≤ a))) := propext Iff.rfl
theorem z_addI : oAdd (.int a) (.int b) Q = Q (.int (a + b)) := propext Iff.rfl
theorem z_addS : oAdd (.str x) (.str y) Q = (x.length + y.length ≤ sizeLine ∧ Q (.str (x ++ y))) := propext Iff.rfl
theorem z_addL : oAdd (.lst xs) (.lst ys) Q = (xs.length + ys.length ≤ sizeLine ∧ Q (.lst (xs ++ ys))) := propext Iff.rfl
theorem z_addT : oAdd (.tup xs) (.tup ys) Q = ((xs ≠ [] ∧ xs.length + ys.length ≤ sizeLine) ∧ Q (.tup (xs ++ ys))) := propext Iff.rfl
theorem z_mulI : oMul (.int a) (.int b) Q = (MulOkD a b ∧ Q (.int (a * b))) := propext Iff.rfl
theorem z_mulS : oMul (.str x) (.int b) Q = ((0 ≤ b ∧ b ≤ 100000 ∧ x.length ≤ 100) ∧ Q (.str (repS x b.toNat))) := propext Iff.rfl
theorem z_mulL : oMul (.lst xs) (.int b) Q = ((-(2 ^ 63) ≤ b ∧ b < 2 ^ 63 ∧ xs.length * b.toNat ≤ sizeLine) ∧ Q (.lst (List.replicate b.toNat xs).flatten)) := propext Iff.rfl
theorem z_atD : atD (some d) Q = Q d := propext Iff.rfl
theorem z_atC {c : Nat} : atC (some c) Q = Q (.str ⟨#[c]⟩) := propext Iff.rfl
theorem z_ixL : oIx (.lst xs) (.int a) Q = atD (atI xs a) Q := propext Iff.rfl
theorem z_ixT : oIx (.tup xs) (.int a) Q = atD (atI xs a) Q := propext Iff.rfl
theorem z_ixS : oIx (.str x) (.int a) Q = (x.length ≤ sizeLine ∧ atC (atI x.cps.toList a) Q) := propext Iff.rfl
theorem z_ixL0 {e0 : D} : oIx (.lst (e0 :: xs)) (.int 0) Q = Q e0 := by
  show atD (atI _ 0) Q = _
  rw [atI0]
  rfl
theorem z_ixL1 {e0 e1 : D} : oIx (.lst (e0 :: e1 :: xs)) (.int 1) Q = Q e1 := by
  show atD (atI _ 1) Q = _
  rw [atI1]
  rfl
theorem z_ixL2 {e0 e1 e2 : D} : oIx (.lst (e0 :: e1 :: e2 :: xs)) (.int 2) Q = Q e2 := by
  show atD (atI _ 2) Q = _
  rw [atI2]
  rfl
theorem z_ixL3 {e0 e1 e2 e3 : D} : oIx (.lst (e0 :: e1 :: e2 :: e3 :: xs)) (.int 3) Q = Q e3 := by
  show atD (atI _ 3) Q = _
  rw [atI3]
  rfl
theorem z_ixL4 {e0 e1 e2 e3 e4 : D} : oIx (.lst (e0 :: e1 :: e2 :: e3 :: e4 :: xs)) (.int 4) Q = Q e4 := by
  show atD (atI _ 4) Q = _
  rw [atI4]
  rfl
theorem z_ixL5 {e0 e1 e2 e3 e4 e5 : D} : oIx (.lst (e0 :: e1 :: e2 :: e3 :: e4 :: e5 :: xs)) (.int 5) Q = Q e5 := by
  show atD (atI _ 5) Q = _
  rw [atI5]
  rfl
theorem z_ixL6 {e0 e1 e2 e3 e4 e5 e6 : D} : oIx (.lst (e0 :: e1 :: e2 :: e3 :: e4 :: e5 :: e6 :: xs)) (.int 6) Q = Q e6 := by
  show atD (atI _ 6) Q = _
  rw [atI6]
  rfl
theorem z_ixL7 {e0 e1 e2 e3 e4 e5 e6 e7 : D} : oIx (.lst (e0 :: e1 :: e2 :: e3 :: e4 :: e5 :: e6 :: e7 :: xs)) (.int 7) Q = Q e7 := by
  show atD (atI _ 7) Q = _
  rw [atI7]
  rfl
theorem z_ixT0 {e0 : D} : oIx (.tup (e0 :: xs)) (.int 0) Q = Q e0 := by
  show atD (atI _ 0) Q = _
  rw [atI0]
  rfl
theorem z_ixT1 {e0 e1 : D} : oIx (.tup (e0 :: e1 :: xs)) (.int 1) Q = Q e1 := by
  show atD (atI _ 1) Q = _
  rw [atI1]
  rfl
theorem z_ixT2 {e0 e1 e2 : D} : oIx (.tup (e0 :: e1 :: e2 :: xs)) (.int 2) Q = Q e2 := by
  show atD (atI _ 2) Q = _
  rw [atI2]
  rfl
theorem z_ixT3 {e0 e1 e2 e3 : D} : oIx (.tup (e0 :: e1 :: e2 :: e3 :: xs)) (.int 3) Q = Q e3 := by
  show atD (atI _ 3) Q = _
  rw [atI3]
  rfl
theorem z_ixT4 {e0 e1 e2 e3 e4 : D} : oIx (.tup (e0 :: e1 :: e2 :: e3 :: e4 :: xs)) (.int 4) Q = Q e4 := by
  show atD (atI _ 4) Q = _
  rw [atI4]
  rfl
theorem z_ixT5 {e0 e1 e2 e3 e4 e5 : D} : oIx (.tup (e0 :: e1 :: e2 :: e3 :: e4 :: e5 :: xs)) (.int 5) Q = Q e5 := by
  show atD (atI _ 5) Q = _
  rw [atI5]
  rfl
theorem z_ixT6 {e0 e1 e2 e3 e4 e5 e6 : D} : oIx (.tup (e0 :: e1 :: e2 :: e3 :: e4 :: e5 :: e6 :: xs)) (.int 6) Q = Q e6 := by
  show atD (atI _ 6) Q = _
  rw [atI6]
  rfl
theorem z_ixT7 {e0 e1 e2 e3 e4 e5 e6 e7 : D} : oIx (.tup (e0 :: e1 :: e2 :: e3 :: e4 :: e5 :: e6 :: e7 :: xs)) (.int 7) Q = Q e7 := by
  show atD (atI _ 7) Q = _
  rw [atI7]
  rfl
theorem z_eqS : oEq (.str x) (.str y) Q = Q (.bl (decide (x = y))) := propext Iff.rfl
theorem z_eqI : oEq (.int a) (.int b) Q = Q (.bl (decide (a = b))) := propext Iff.rfl
theorem z_eqB : oEq (.bl p) (.bl q) Q = Q (.bl (p == q)) := propext Iff.rfl
theorem z_eqL : oEq (.lst xs) (.lst ys) Q = ((plain (.lst xs) = true ∧ plain (.lst ys) = true) ∧ Q (.bl (eqb (.lst xs) (.lst ys)))) := propext Iff.rfl
theorem z_eqT : oEq (.tup xs) (.tup ys) Q = ((plain (.tup xs) = true ∧ plain (.tup ys) = true) ∧ Q (.bl (eqb (.tup xs) (.tup ys)))) := propext Iff.rfl
theorem z_neS : oNe (.str x) (.str y) Q = Q (.bl (!decide (x = y))) := propext Iff.rfl
theorem z_neI : oNe (.int a) (.int b) Q = Q (.bl (!decide (a = b))) := propext Iff.rfl
theorem z_neB : oNe (.bl p) (.bl q) Q = Q (.bl (!(p == q))) := propext Iff.rfl
theorem z_neL : oNe (.lst xs) (.lst ys) Q = ((plain (.lst xs) = true ∧ plain (.lst ys) = true) ∧ Q (.bl (!eqb (.lst xs) (.lst ys)))) := propext Iff.rfl
theorem z_neT : oNe (.tup xs) (.tup ys) Q = ((plain (.tup xs) = true ∧ plain (.tup ys) = true) ∧ Q (.bl (!eqb (.tup xs) (.tup ys)))) := propext Iff.rfl
theorem z_inL : oIn false d (.lst ys) Q = ((isFlat d = true ∧ ys.all isFlat = true) ∧ Q (.bl (inD d ys))) := propext Iff.rfl
theorem z_inT : oIn false d (.tup ys) Q = ((isFlat d = true ∧ ys.all isFlat = true) ∧ Q (.bl (inD d ys))) := propext Iff.rfl
theorem z_ninL : oIn true d (.lst ys) Q = ((isFlat d = true ∧ ys.all isFlat = true) ∧ Q (.bl (!inD d ys))) := propext Iff.rfl
theorem z_ninT : oIn true d (.tup ys) Q = ((isFlat d = true ∧ ys.all isFlat = true) ∧ Q (.bl (!inD d ys))) := propext Iff.rfl
theorem z_inK : oIn false d (.ktup ys) Q = ((isFlat d = true ∧ ys.all isFlat = true) ∧ Q (.bl (inD d ys))) := propext Iff.rfl
theorem z_ninK : oIn true d (.ktup ys) Q = ((isFlat d = true ∧ ys.all isFlat = true) ∧ Q (.bl (!inD d ys))) := propext Iff.rfl
theorem z_slL : oSl (.lst xs) lo hi Q = Q (.lst (cut xs lo hi)) := propext Iff.rfl
theorem z_slT : oSl (.tup xs) lo hi Q = Q (.tup (cut xs lo hi)) := propext Iff.rfl
theorem z_slS : oSl (.str x) lo hi Q = (x.length ≤ sizeLine ∧ Q (.str ⟨(cut x.cps.toList lo hi).toArray⟩)) := propext Iff.rfl
theorem z_lenL : cLen [.lst xs] Q = Q (.int xs.length) := propext Iff.rfl
theorem z_lenT : cLen [.tup xs] Q = Q (.int xs.length) := propext Iff.rfl
theorem z_lenS : cLen [.str x] Q = (x.length ≤ sizeLine ∧ Q (.int x.length)) := propext Iff.rfl
theorem z_intI : cInt [.int a] Q = Q (.int a) := propext Iff.rfl
theorem z_intB : cInt [.bl p] Q = Q (.int (if p then 1 else 0)) := propext Iff.rfl
theorem z_tupL : cTuple [.lst xs] Q = Q (.tup xs) := propext Iff.rfl
theorem z_tupT : cTuple [.tup xs] Q = Q (.tup xs) := propext Iff.rfl
end
def r1D (ds : List D) (QL : List D → Prop) : Prop := match ds with
  | [.int n] => (-(2 ^ 62) ≤ n ∧ n < 2 ^ 62) ∧ QL (ups 0 n.toNat)
  | _ => False
def fldD (C i : Nat) (d : D) (Q : D → Prop) : Prop := match d with
  | .obj C' fs => C' = C ∧ atD fs[i]? Q
  | _ => False
section
variable {δ : DS} {Q : D → Prop} {QL : List D → Prop} {r ra rb : DE} {rA : DA} {a b : Int} {x : Str} {xs ds : List D} {d : D} {C C' i : Nat} {S : FD} {SI : FI} {ks : List Str} {kv : List (D × D)} {T : String} {m : OM} {p : Bool}
theorem z_r1 : iR1 rA δ QL = rA δ fun ds => r1D ds QL := propext Iff.rfl
theorem z_r1D : r1D [.int a] QL = ((-(2 ^ 62) ≤ a ∧ a < 2 ^ 62) ∧ QL (ups 0 a.toNat)) := propext Iff.rfl
theorem z_fld : dFld C i r δ Q = r δ fun d => fldD C i d Q := propext Iff.rfl
theorem z_fldD : fldD C i (.obj C xs) Q = atD xs[i]? Q := by
  show (C = C ∧ _) = _
  simp
theorem z_isO : isO C (.obj C xs) = True := by
  show (C = C) = True
  simp
theorem z_make : dMake C SI rA δ Q = rA δ fun ds => SI ds fun fs => Q (.obj C fs) := propext Iff.rfl
end
end DL
namespace DL
open PySem PySem.Spec PyProof.Rows L2 Evl
def KdAll (K : PySem.W.Frag) (a : Addr) : List (Str × Str) → Prop
  | [] => True
  | (x, v) :: r => (∃ t, PySem.W.nsIn K a x = some (some (.str v t))) ∧ KdAll K a r
structure KDs (K : PySem.W.Frag) (w : World) (a : Addr) (tbl : List (Str × Str)) : Prop where
  ex : ∃ es n, K.lookup a = some ⟨.type "dict", none, .dict es n, #[]⟩ ∧ PySem.W.KeysLit w.params es.toList
  all : KdAll K a tbl
def kget (tbl : List (Str × Str)) (x : Str) : Option Str := (tbl.find? fun z => decide (z.1 = x)).map (·.2)
theorem kget_at {K : PySem.W.Frag} {a : Addr} {x v : Str} : ∀ {tbl : List (Str × Str)}, KdAll K a tbl → kget tbl x = some v → ∃ t, PySem.W.nsIn K a x = some (some (.str v t))
  | [], _, h => by cases h
  | (y, u) :: r, h1, h => by
    unfold kget at h
    rw [List.find?_cons] at h
    by_cases e : y = x
    · subst e
      simp only [decide_true, Option.map_some, Option.some.injEq] at h
      subst h
      exact h1.1
    · rw [decide_eq_false e] at h
      exact kget_at h1.2 h
theorem KDs.at {K : PySem.W.Frag} {w : World} {a : Addr} {tbl : List (Str × Str)} {x v : Str} (h : KDs K w a tbl) (e : kget tbl x = some v) : KDct K w a x (.str v) := by
  obtain ⟨es, n, h1, h2⟩ := h.ex
  obtain ⟨t, h3⟩ := kget_at h.all e
  exact ⟨es, n, .str v t, h1, h2, h3, t, rfl⟩
end DL
namespace DL
open PySem PySem.Spec PyProof.Rows L2 Evl
end DL
namespace DL
open PySem PySem.Spec PyProof.Rows L2 Evl
abbrev OE := DS → (OD → Prop) → Prop
abbrev OA := DS → (List OD → Prop) → Prop
abbrev FO := List D → (OD → Prop) → Prop
def Fresh (B : Bx) (H : Hp) (f : List Addr) : Prop := f.Nodup ∧ ∀ p ∈ f, H p = none ∧ B.nb p
def liftW (K : PySem.W.Frag) (B : Bx) (r : OE) : TE := fun σ H P => ∃ (H0 G : Hp) (δ : DS) (Q : OD → Prop), Jn K B G H ∧ StOk K B H0 G H σ δ ∧ r δ Q ∧ ∀ o v f G2 H2, Q o → Gr K B G H G2 H2 → Own K B G2 H2 v o f → Fresh B H f → P v H2
def liftWA (K : PySem.W.Frag) (B : Bx) (r : OA) : TA := fun σ H P => ∃ (H0 G : Hp) (δ : DS) (Q : List OD → Prop), Jn K B G H ∧ StOk K B H0 G H σ δ ∧ r δ Q ∧ ∀ os vs f G2 H2, Q os → Gr K B G H G2 H2 → Owns K B G2 H2 vs os f → Fresh B H f → P vs H2
abbrev PO (X : Cx) (B : Bx) (e : Expr) (r : OE) : Prop := PE X e (liftW X.K B r)
abbrev PAO (X : Cx) (B : Bx) (es : List Expr) (r : OA) : Prop := PA X es (liftWA X.K B r)
section
variable {K : PySem.W.Frag} {B : Bx} {G H G2 H2 : Hp}
theorem Gr.kept (g : Gr K B G H G2 H2) {f : List Addr} (h : ∀ p ∈ f, Mu H p ∧ B.nb p) : Kept G H G2 H2 f := fun p hp => by
  refine ⟨?_, g.old p (h p hp).1⟩
  cases q : H p with
  | none => exact absurd q (h p hp).1.ne
  | some o => exact g.keep p o (h p hp).2 q
theorem Own.gr {v : V} {o : OD} {f : List Addr} (h : Own K B G H v o f) (g : Gr K B G H G2 H2) (hf : ∀ p ∈ f, B.nb p) : Own K B G2 H2 v o f := h.keep g.ex (g.kept fun p hp => ⟨(h.node p hp).at, hf p hp⟩)
theorem Owns.gr {v : List V} {o : List OD} {f : List Addr} (h : Owns K B G H v o f) (g : Gr K B G H G2 H2) (hf : ∀ p ∈ f, B.nb p) : Owns K B G2 H2 v o f := h.keep g.ex (g.kept fun p hp => ⟨(h.node p hp).at, hf p hp⟩)
theorem Fresh.nil : Fresh B H [] := ⟨List.nodup_nil, fun p hp => nomatch hp⟩
theorem Fresh.back {G0 H0 : Hp} {f : List Addr} (h : Fresh B H f) (g : Gr K B G0 H0 G H) : Fresh B H0 f := ⟨h.1, fun p hp => ⟨g.free (h.2 p hp).1, (h.2 p hp).2⟩⟩
/-- first ones, then others -/
theorem Fresh.app {v : V} {o : OD} {f f2 : List Addr} (h : Fresh B H f) (ow : Own K B G2 H2 v o f) (g : Gr K B G H G2 H2) (h2 : Fresh B H2 f2) : Fresh B H (f ++ f2) := by
  refine ⟨List.nodup_append.mpr ⟨h.1, h2.1, fun a ha b hb e => ?_⟩, fun p hp => (List.mem_append.mp hp).elim (h.2 p) fun z => ⟨g.free (h2.2 p z).1, (h2.2 p z).2⟩⟩
  subst e
  exact (ow.node a ha).at.ne (h2.2 a hb).1
end
section
variable {X : Cx} {B : Bx} {e : Expr} {es : List Expr} {r : DE} {ra : DA} {ro : OE} {rao : OA} {pos : Pos}
def oD (r : DE) : OE := fun δ Q => r δ fun d => Q (.sh d)
def oF (ra : DA) : OE := fun δ Q => ra δ fun ds => Q (.lst (ds.map .sh))
theorem po_d (h : PD X B e r) : PO X B e (oD r) := pe_mono h fun σ H P q => by
  obtain ⟨H0, G, δ, Q, j, st, hr, k⟩ := q
  exact ⟨H0, G, δ, _, j, st, hr, fun d v G2 H2 q2 g2 h2 => k _ v [] G2 H2 q2 g2 (.sh h2) Fresh.nil⟩
theorem po_f (h : PF X B e ra) : PO X B e (oF ra) := pe_mono h fun σ H P q => by
  obtain ⟨H0, G, δ, Q, j, st, hr, k⟩ := q
  refine ⟨H0, G, δ, _, j, st, hr, fun ds p vs G2 H2 q2 g2 hp gp h2 hd => k _ _ [p] G2 H2 q2 g2 (.lst h2 gp (Owns.of hd)) ⟨List.nodup_cons.mpr ⟨List.not_mem_nil, List.nodup_nil⟩, fun q hq => ?_⟩⟩
  cases List.mem_singleton.mp hq
  exact ⟨hp, Gr.neB j hp⟩
def oNil : OA := fun _ Q => Q []
def oCons (r : OE) (ra : OA) : OA := fun δ Q => r δ fun x => ra δ fun xs => Q (x :: xs)
theorem pao_nil : PAO X B [] oNil := pa_mono pa_nil fun σ H P q => by
  obtain ⟨H0, G, δ, Q, j, st, hr, k⟩ := q
  exact k [] [] [] G H hr (Gr.refl j) .nil Fresh.nil
theorem pao_cons (h : PO X B e ro) (ha : PAO X B es rao) (hs : starEach (e :: es) X.env = (false, eval e X.env) :: starEach es X.env := by rfl) : PAO X B (e :: es) (oCons ro rao) := pa_mono (pa_cons h ha hs) fun σ H P q => by
  obtain ⟨H0, G, δ, Q, j, st, hr, k⟩ := q
  refine ⟨H0, G, δ, _, j, st, hr, fun o v f G2 H2 q2 g2 h2 f2 => ?_⟩
  refine ⟨H0, G2, δ, _, g2.j, st.gr g2, q2, fun os vs f3 G3 H3 q3 g3 h3 f4 => ?_⟩
  exact k _ _ _ G3 H3 q3 (g2.trans g3) (.cons (h2.gr g3 fun p hp => (f2.2 p hp).2) h3) (f2.app h2 g2 f4)
/-- [a, b, ..] -/
def oLst (ra : OA) : OE := fun δ Q => ra δ fun os => szD os.length (Q (.lst os))
theorem Own.newL {K : PySem.W.Frag} {G H G2 H2 : Hp} {vs : List V} {os : List OD} {f : List Addr} {p : Addr} (g2 : Gr K B G H G2 H2) (h : Owns K B G2 H2 vs os f) (hf : Fresh B H f) (hp : H2 p = none) :
    Gr K B G H G2 (upd H2 p (.lst vs)) ∧ Own K B G2 (upd H2 p (.lst vs)) (.ref p) (.lst os) (p :: f) ∧ Fresh B H (p :: f) := by
  have np : p ∉ f := fun z => (h.node p z).at.ne hp
  refine ⟨g2.trans (Gr.new0 g2.j hp), .lst upd_same (fresh_back g2.j.ex hp) (h.past np), List.nodup_cons.mpr ⟨np, hf.1⟩, fun q hq => ?_⟩
  rcases List.mem_cons.mp hq with rfl | hq
  · exact ⟨g2.free hp, Gr.neB g2.j hp⟩
  · exact hf.2 q hq
theorem po_lst (h : PAO X B es rao) : PO X B (.List es pos) (oLst rao) := pe_mono (pe_lst h) fun σ H P q => by
  obtain ⟨H0, G, δ, Q, j, st, hr, k⟩ := q
  refine ⟨H0, G, δ, _, j, st, hr, fun os vs f G2 H2 q2 g2 h2 f2 => ?_⟩
  have q2 : (match decide (os.length ≤ 1000) with | true => Q (.lst os) | false => False) := q2
  cases hz : decide (os.length ≤ 1000) with
  | false => rw [hz] at q2; exact q2.elim
  | true =>
    rw [hz] at q2
    refine ⟨sz1000 (by rw [h2.len]; exact of_decide_eq_true hz), fun p hp => ?_⟩
    obtain ⟨g3, o3, f3⟩ := Own.newL g2 h2 f2 hp
    exact k _ _ _ _ _ q2 g3 o3 f3
/-- {} -/
def oDic0 (t : Bool) : OE := fun _ Q => Q (.dic t [])
theorem po_dicK : PO X B (.Dict [] [] pos) (oDic0 false) := pe_mono pe_dnewK fun σ H P q p hp => by
  obtain ⟨H0, G, δ, Q, j, st, hr, k⟩ := q
  refine k _ _ [p] G _ hr (Gr.new0 j hp) (.dK upd_same (fresh_back j.ex hp) .nil) ⟨List.nodup_cons.mpr ⟨List.not_mem_nil, List.nodup_nil⟩, fun q hq => ?_⟩
  cases List.mem_singleton.mp hq
  exact ⟨hp, Gr.neB j hp⟩
/-- it becomes data -/
def dFz (ro : OE) : DE := fun δ Q => ro δ fun o => Q o.toD
theorem pd_fz (h : PO X B e ro) : PD X B e (dFz ro) := ⟨fun pins s σ H P I q => by
  obtain ⟨H0, G, δ, Q, j, st, hr, k⟩ := q
  refine thn (h.run pins s σ H (fun v H1 => ∃ o f G2, Q o.toD ∧ Gr X.K B G H G2 H1 ∧ Own X.K B G2 H1 v o f ∧ Fresh B H f) I ⟨H0, G, δ, _, j, st, hr, fun o v f G2 H2 q2 g2 h2 f2 => ⟨o, f, G2, q2, g2, h2, f2⟩⟩) fun u s1 ⟨v, H1, I1, r1, o, f, G2, q2, g2, h2, f2⟩ => ?_
  obtain ⟨L, I2, l⟩ := lock_all f I1 f2.1
  have hf : ∀ p ∈ f, H p = none ∧ B.nb p ∧ G2 p = none := fun p hp => ⟨(f2.2 p hp).1, (f2.2 p hp).2, (h2.node p hp).1⟩
  exact ⟨v, L, I2, r1, k _ v _ L q2 ((g2.lock l hf).frzs hf) (h2.dat (fun p hp => (hf p hp).2.2) l fun p hp => hp)⟩⟩
/-- x = e -/
def dSetT (i : Nat) (ro : OE) : DTS := fun W δ => ro δ fun o => ∀ v, W.nx (δ.set i (some (.ow v o)))
theorem psd_setT {i : Nat} {x : Str} {pos' : Pos} (hN : X.N.Nodup) (hi : X.N[i]? = some x) (hx : Loc X.env.scope x) (he : PO X B e ro) (hs : swapsWith e (some (.Name x pos')) pos.line X.env = pure false := by rfl) (hf : X.fn x = true ∨ X.env.scope.names.lookup x = some .local := by first | exact .inl rfl | exact .inr rfl | assumption) :
    PSD X B (.Assign [.Name x pos'] e pos) (dSetT i ro) := ps_mono (ps_set hN hi hx he hs hf) fun E σ H q => by
  obtain ⟨G0, H0, G, δ, W, g0, s, h, k⟩ := q
  refine ⟨H0, G, δ, _, g0.j, s, h, fun o v f G2 H2 q2 g2 h2 f2 => ?_⟩
  exact k.nx _ _ _ _ (q2 v) (g0.trans g2) g2.ex (s.setO g2 h2 f2.1 fun p hp => ⟨(f2.2 p hp).1, g0.free (f2.2 p hp).1, (f2.2 p hp).2⟩)
/-- return e, and return x, of what is one's own -/
def dRetE (ro : OE) : DTS := fun W δ => ro δ W.ro
theorem psd_retE (h : PO X B e ro) : PSD X B (.Return (some e) pos) (dRetE ro) := ps_mono (ps_ret h) fun E σ H q => by
  obtain ⟨G0, H0, G, δ, W, g0, s, h, k⟩ := q
  refine ⟨H0, G, δ, _, g0.j, s, h, fun o v f G2 H2 q2 g2 h2 f2 => ?_⟩
  exact k.ro _ _ _ _ _ q2 (g0.trans g2) g2.ex h2 f2.1 (f2.back g0).2
end
def spO (K : PySem.W.Frag) (B : Bx) (S : FO) : Sp := fun vs H P _ => ∃ (G : Hp) (ds : List D) (Q : OD → Prop), Jn K B G H ∧ Dats K B G vs ds ∧ S ds Q ∧ ∀ o v f G2 H2, Q o → Gr K B G H G2 H2 → Own K B G2 H2 v o f → Fresh B H f → P v H2
section
variable {P : Program} {w : World} {K : PySem.W.Frag} {mg : Str → Option Value} {base : Heap}
theorem fn_o {x qual : Str} {st : Stmt} {f : Addr} {fd : FuncData} {N ps : List Str} {k : Nat} {B : Bx} {S : FO} {t : DTS} (F : Fun K x qual st f fd) (Sc : FnScope N ps (defScope st)) (len : ∀ ds Q, S ds Q → ds.length = ps.length)
    (hbody : ∀ (cdv : Value) (A : Around) (outer : List Env) (s : Shared) (H : Hp) (E : XK), Room k (A.deeper (envOfC qual (defScope st) s.heap.objs.size f cdv)) → PSsD (cxOf CX0 P w K mg base N qual (defScope st) f cdv A outer s H E).nox B (defBody st) t)
    (vc : ∀ ds Q, S ds Q → t { nx := fun _ => Q (.sh .non), rt := fun d => Q (.sh d), ro := Q } (startD N.length ds)) : FnOk P w K mg base CX0 (k + 1) f fd ps (spO K B S) := by
  refine F.ok Sc (fun vs H Q E h => ?_) (fun cdv A outer s H vs Q E hr h => ⟨_, hbody cdv A outer s H E hr, ?_⟩)
  · obtain ⟨G, ds, R, j, hd, hs, _⟩ := h
    rw [hd.len]
    exact len ds R hs
  · obtain ⟨G, ds, R, j, hd, hs, kk⟩ := h
    refine ⟨G, H, G, startD N.length ds, _, Gr.refl j, start_ok hd, vc ds R hs, ⟨?_, ?_, ?_, ?_, ?_⟩⟩
    · exact fun σ δ G2 H2 q g _ s2 => kk _ .non [] G2 H2 q g (.sh .non) Fresh.nil
    · exact fun σ δ G2 H2 q g _ s2 => q.elim
    · exact fun σ δ G2 H2 q g _ s2 => q.elim
    · exact fun d v G2 H2 q g _ hd => kk _ v [] G2 H2 q g (.sh hd) Fresh.nil
    · exact fun o v f G2 H2 q g _ h2 n2 m2 => kk o v f G2 H2 q g h2 ⟨n2, m2⟩
end
def oCall (S : FO) (ra : DA) : OE := fun δ Q => ra δ fun ds => S ds Q
theorem liftCO {K : PySem.W.Frag} {B : Bx} {S : FO} {ra : DA} {σ : L2.St} {H : Hp} {P : VK} (q : liftW K B (oCall S ra) σ H P) : liftA K B ra σ H fun vs H1 => spO K B S vs H1 P E0 := by
  obtain ⟨H0, G, δ, Q, j, st, hr, k⟩ := q
  refine ⟨H0, G, δ, _, j, st, hr, fun ds vs G2 H2 q2 g2 h2 => ?_⟩
  exact ⟨G2, ds, Q, g2.j, h2, q2, fun o v f G3 H3 q3 g3 h3 f3 => k o v f G3 H3 q3 (g2.trans g3) h3 (f3.back g2)⟩
section
variable {X : Cx} {B : Bx} {e o : Expr} {es : List Expr} {r : DE} {pos : Pos} {C k k' i : Nat} {S : FO} {ra : DA} {m : Str} {g : Addr}
theorem po_callD {x : Str} {st : Stmt} {ps : List Str} {fp : Pos} (T : DefAt X.K X.mg x st ps) (F : FnOk X.prog X.w X.K X.mg X.base CX0 k T.f T.fd ps (spO X.K B S)) (hr : Room k' X.A) (hk : k ≤ k') (hg : Gl X x) (ha : PAD X B (e :: es) ra) (hd : (x == ("__debug__" : Str)) = false := by decide) (he : starEach (e :: es) X.env = (false, eval e X.env) :: starEach es X.env := by rfl) (hpl : (backTo pos (starEach es X.env)).any (·.1) = false := by rfl) :
    PO X B (.Call (.Name x fp) (e :: es) [] pos) (oCall S ra) :=
  pe_mono (pe_call (E := E0) F (hr.mono hk) hg T.at_ T.fn.kp T.bd .nil pass0 ha hd he hpl) fun σ H P q => by
    obtain ⟨H0, G, δ, Q, j, st, h1, k⟩ := liftCO q
    exact ⟨H0, G, δ, Q, j, st, h1, fun ds vs G2 H2 q2 g2 h2 => by
      show spO X.K B S (vs ++ []) H2 P E0
      rw [List.append_nil]
      exact k ds vs G2 H2 q2 g2 h2⟩
end
end DL
namespace DL
open PySem PySem.Spec PyProof.Rows L2 Evl
section
variable {X : Cx} {B : Bx} {e : Expr} {r : DE} {t : DT} {pos : Pos}
theorem unlock_all {pins : List (Addr × Obj)} {σ : L2.St} {s : Shared} {H L : Hp} : ∀ (f : List Addr) {H2 : Hp}, Inv X pins σ H2 s → f.Nodup → (∀ p ∈ f, (∃ vs, H p = some (.lst vs) ∧ L p = some (.lst vs)) ∨ ∃ u od, H p = some u ∧ L p = some (.frz od u)) → (∀ p ∈ f, H2 p = L p) → (∀ p ∈ f, ∀ o' u', X.H_0 p ≠ some (.frz o' u')) →
    ∃ U, Inv X pins σ U s ∧ (∀ p ∈ f, U p = H p) ∧ ∀ p, p ∉ f → U p = H2 p
  | [], H2, I, _, _, _, _ => ⟨H2, I, fun _ z => (nomatch z), fun _ _ => rfl⟩
  | p :: f, H2, I, nd, hk, h2, nf => by
    have hp : p ∉ f := (List.nodup_cons.mp nd).1
    obtain ⟨U, I1, u1, u2⟩ := unlock_all f I (List.nodup_cons.mp nd).2 (fun q hq => hk q (List.mem_cons_of_mem _ hq)) (fun q hq => h2 q (List.mem_cons_of_mem _ hq)) fun q hq => nf q (List.mem_cons_of_mem _ hq)
    have e1 : U p = L p := (u2 p hp).trans (h2 p List.mem_cons_self)
    rcases hk p List.mem_cons_self with ⟨vs, a, b⟩ | ⟨u, od, a, b⟩
    · refine ⟨U, I1, fun q hq => ?_, fun q hq => u2 q fun z => hq (List.mem_cons_of_mem _ z)⟩
      rcases List.mem_cons.mp hq with rfl | hq
      · rw [e1, b, a]
      · exact u1 q hq
    · refine ⟨_, I1.unlock (e1.trans b) (nf p List.mem_cons_self), fun q hq => ?_, fun q hq => ?_⟩
      · by_cases e : q = p
        · subst e
          rw [upd_same, a]
        · rw [upd_ne e]
          exact u1 q ((List.mem_cons.mp hq).resolve_left e)
      · rw [upd_ne fun e => hq (by rw [e]; exact List.mem_cons_self)]
        exact u2 q fun z => hq (List.mem_cons_of_mem _ z)
theorem lkd_kinds {G H L : Hp} {f : List Addr} (l : Lkd H L f) (h : ∀ p ∈ f, Node G H p) : ∀ p ∈ f, (∃ vs, H p = some (.lst vs) ∧ L p = some (.lst vs)) ∨ ∃ u od, H p = some u ∧ L p = some (.frz od u) := fun p hp => by
  rcases (h p hp).2 with ⟨vs, a⟩ | ⟨vs, a⟩ | ⟨vs, a⟩
  · exact .inl ⟨vs, a, l.lst p vs a⟩
  · obtain ⟨od, b⟩ := l.dK p vs hp a
    exact .inr ⟨_, od, a, b⟩
  · obtain ⟨od, b⟩ := l.dT p vs hp a
    exact .inr ⟨_, od, a, b⟩
theorem bor_core {pins : List (Addr × Obj)} {σ : L2.St} {s : Shared} {H0 G H : Hp} {δ : DS} {i : Nat} {v : V} {o : OD} (I : Inv X pins σ H s) (j : Jn X.K B G H) (st : StOk X.K B H0 G H σ δ) (h1 : δ[i]? = some (some (.ow v o))) :
    ∃ G1 L, Inv X pins σ L s ∧ Jn X.K B G1 L ∧ StOk X.K B H0 G1 L σ (δ.set i (some (.sh o.toD))) ∧ ∀ s2 G2 H2, Inv X pins σ H2 s2 → Gr X.K B G1 L G2 H2 → ∃ U G3, Inv X pins σ U s2 ∧ Gr X.K B G H G3 U := by
  obtain ⟨F, y⟩ := st.ex
  obtain ⟨e1, e2, e3, e4⟩ := y.ow h1
  obtain ⟨L, I2, l⟩ := lock_all (F i) I e3
  have hG : ∀ p ∈ F i, G p = none := fun p hp => (e2.node p hp).1
  have ex := frz_ex (G := G) (H := L) hG
  have nb : B.b ∉ F i := fun z => (e4 _ z).2.1.1 rfl
  have kinds := lkd_kinds l fun p hp => e2.node p hp
  have nf : ∀ p ∈ F i, ∀ o' u', X.H_0 p ≠ some (.frz o' u') := fun p hp => by
    rcases (e2.node p hp).2 with ⟨vs, a⟩ | ⟨vs, a⟩ | ⟨vs, a⟩
    · exact I.nofrz a trivial
    · exact I.nofrz a trivial
    · exact I.nofrz a trivial
  have nn : ∀ a, ¬ B.nb a → a ∉ F i := fun a n z => n (e4 a z).2
  have xt : Xt B (frzG G L (F i)) L := j.next ex (fun a o n h => (l.out a (nn a n)).trans h) (fun a n _ => by unfold frzG; rw [if_neg (nn a n)]) (fun t h _ => by
    have nt : t.1 ∉ F i := fun z => (e4 _ z).2.tab t h rfl
    exact ⟨l.out _ nt, fun z => by unfold frzG; rw [if_neg nt]; exact z⟩) (fun a ps h => by
    by_cases ha : a ∈ F i
    · rcases kinds a ha with ⟨vs, _, b⟩ | ⟨u, od, _, b⟩ <;> rw [b] at h <;> cases h
    · rw [l.out a ha] at h
      exact ⟨_, h⟩)
  refine ⟨frzG G L (F i), L, I2, ⟨fun a u h => ?_, ?_, ?_, xt⟩, ?_, fun s2 G2 H2 J g => ?_⟩
  · unfold frzG at h
    split at h
    · exact h
    · rename_i hn
      rw [l.out a hn]
      exact j.ex a u h
  · unfold frzG
    rw [if_neg nb]
    exact j.no
  · obtain ⟨a, b, c, ns, h1, h2, h3⟩ := j.bag
    exact ⟨a, b, c, ns, by rw [l.out _ nb]; exact h1, ex_l ex h2, h3⟩
  · have s3 := y.put (i := i) (List.getElem?_eq_some_iff.mp e1).1 ex (H2 := L) (fun p _ _ hp => ⟨l.out p hp, by unfold frzG; rw [if_neg hp]⟩) (.sh (e2.dat hG l fun p hp => hp)) fun p hp => nomatch hp
    rw [set_same e1] at s3
    exact ⟨_, s3⟩
  · have h2 : ∀ p ∈ F i, H2 p = L p := fun p hp => by
      rcases kinds p hp with ⟨vs, _, b⟩ | ⟨u, od, _, b⟩
      · rw [b]; exact g.keep p _ (e4 p hp).2 b
      · rw [b]; exact g.keep p _ (e4 p hp).2 b
    obtain ⟨U, J2, u1, u2⟩ := unlock_all (H := H) (L := L) (F i) J e3 kinds h2 nf
    refine ⟨U, codG G G2, J2, Gr.back j g ex l.out (fun p hp => ?_) (fun p hp => (e4 p hp).2) hG u1 u2⟩
    rw [h2 p hp]
    rcases kinds p hp with ⟨vs, _, b⟩ | ⟨u, od, _, b⟩
    · exact ⟨_, b, ncod (nl rfl)⟩
    · exact ⟨_, b, ncod (nl rfl)⟩
def tBor (i : Nat) (t : DT) : DT := fun δ Q => ownO δ[i]? fun _ o => t (δ.set i (some (.sh o.toD))) Q
theorem ptd_bor (i : Nat) (h : PTD X B e t) : PTD X B e (tBor i t) := ⟨fun pins s σ H P I q => by
  obtain ⟨H0, G, δ, Q, j, st, hr, k⟩ := q
  have hr : ownO δ[i]? fun _ o => t (δ.set i (some (.sh o.toD))) Q := hr
  unfold ownO at hr
  split at hr
  · rename_i v o h1
    obtain ⟨G1, L, I2, j1, s1, back⟩ := bor_core I j st h1
    refine thn (h.run pins s σ L (fun b H2 => ∃ G2, Q b ∧ Gr X.K B G1 L G2 H2) I2 ⟨H0, G1, _, Q, j1, s1, hr, fun b G2 H2 q2 g2 => ⟨G2, q2, g2⟩⟩) fun b s2 ⟨H2, J, G2, q2, g2⟩ => ?_
    obtain ⟨U, G3, J2, g3⟩ := back s2 G2 H2 J g2
    exact ⟨U, J2, k b G3 U q2 g3⟩
  · exact hr.elim⟩
def scal : D → Bool
  | .non => true
  | .bl _ => true
  | .int _ => true
  | .str _ => true
  | _ => false
theorem scal_dat {K : PySem.W.Frag} {G G2 : Hp} {v : V} {d : D} (h : Dat K B G v d) (s : scal d = true) : Dat K B G2 v d := by
  cases h with
  | non => exact .non
  | bl b => exact .bl b
  | int i => exact .int i
  | str x => exact .str x
  | _ => cases s
def dBor (i : Nat) (r : DE) : DE := fun δ Q => ownO δ[i]? fun _ o => r (δ.set i (some (.sh o.toD))) fun d => scal d = true ∧ Q d
theorem pd_bor (i : Nat) (h : PD X B e r) : PD X B e (dBor i r) := ⟨fun pins s σ H P I q => by
  obtain ⟨H0, G, δ, Q, j, st, hr, k⟩ := q
  have hr : ownO δ[i]? fun _ o => r (δ.set i (some (.sh o.toD))) fun d => scal d = true ∧ Q d := hr
  unfold ownO at hr
  split at hr
  · rename_i v o h1
    obtain ⟨G1, L, I2, j1, s1, back⟩ := bor_core I j st h1
    refine thn (h.run pins s σ L (fun x H2 => ∃ G2 d, (scal d = true ∧ Q d) ∧ Gr X.K B G1 L G2 H2 ∧ Dat X.K B G2 x d) I2 ⟨H0, G1, _, _, j1, s1, hr, fun d x G2 H2 q2 g2 h2 => ⟨G2, d, q2, g2, h2⟩⟩) fun u s2 ⟨x, H2, J, r2, G2, d, q2, g2, h2⟩ => ?_
    obtain ⟨U, G3, J2, g3⟩ := back s2 G2 H2 J g2
    exact ⟨x, U, J2, r2, k d x G3 U q2.2 g3 (scal_dat h2 q2.1)⟩
  · exact hr.elim⟩
theorem z_tBor {δ : DS} {i : Nat} {Q : Bool → Prop} : tBor i t δ Q = ownO δ[i]? fun _ o => t (δ.set i (some (.sh o.toD))) Q := propext Iff.rfl
def scD (d : D) (Q : D → Prop) : Prop := scal d = true ∧ Q d
theorem z_dBor {δ : DS} {i : Nat} {Q : D → Prop} : dBor i r δ Q = ownO δ[i]? fun _ o => r (δ.set i (some (.sh o.toD))) fun d => scD d Q := propext Iff.rfl
theorem z_scN {Q : D → Prop} : scD .non Q = Q .non := by unfold scD; simp [scal]
theorem z_scB {Q : D → Prop} {b : Bool} : scD (.bl b) Q = Q (.bl b) := by unfold scD; simp [scal]
theorem z_scI {Q : D → Prop} {b : Int} : scD (.int b) Q = Q (.int b) := by unfold scD; simp [scal]
theorem z_scS {Q : D → Prop} {b : Str} : scD (.str b) Q = Q (.str b) := by unfold scD; simp [scal]
end
def getO : OD → List Nat → Option OD
  | o, [] => some o
  | .lst xs, k :: π => match xs[k]? with
    | some x => getO x π
    | none => none
  | .dic _ ks, k :: π => match ks[k]? with
    | some z => getO z.2 π
    | none => none
  | .sh _, _ :: _ => none
def setO : OD → List Nat → OD → OD
  | _, [], s => s
  | .lst xs, k :: π, s => match xs[k]? with
    | some x => .lst (xs.set k (setO x π s))
    | none => .lst xs
  | .dic t ks, k :: π, s => match ks[k]? with
    | some z => .dic t (ks.set k (z.1, setO z.2 π s))
    | none => .dic t ks
  | .sh d, _ :: _, _ => .sh d
def locV (H : Hp) : V → List Nat → Option V
  | v, [] => some v
  | .ref p, k :: π => match H p with
    | some (.lst vs) => match vs[k]? with
      | some u => locV H u π
      | none => none
    | some (.dK vs) => match vs[k]? with
      | some u => locV H u.2 π
      | none => none
    | some (.dT vs) => match vs[k]? with
      | some u => locV H u.2 π
      | none => none
    | _ => none
  | _, _ :: _ => none
section
variable {K : PySem.W.Frag} {B : Bx} {G H : Hp}
theorem Owns.at : ∀ {vs : List V} {xs : List OD} {f : List Addr} {k : Nat} {x : OD}, Owns K B G H vs xs f → xs[k]? = some x → ∃ u f1 fk f2, vs[k]? = some u ∧ f = f1 ++ (fk ++ f2) ∧ Own K B G H u x fk ∧
    ∀ {G2 H2 : Hp} {x' : OD} {u' : V} {fk' : List Addr}, Ex G G2 → Kept G H G2 H2 f1 → Kept G H G2 H2 f2 → Own K B G2 H2 u' x' fk' → Owns K B G2 H2 (vs.set k u') (xs.set k x') (f1 ++ (fk' ++ f2))
  | _, _, _, 0, _, .cons (v := v) (f := f) (g := g) h t, e => by
    cases e
    exact ⟨v, [], f, g, rfl, rfl, h, fun ex _ k2 h2 => by rw [List.nil_append]; exact .cons h2 (t.keep ex k2)⟩
  | _, _, _, k + 1, x, .cons (v := v) (f := f) (vs := vs) (os := os) h t, e => by
    obtain ⟨u, f1, fk, f2, a1, a2, a3, a4⟩ := Owns.at (k := k) (x := x) t e
    refine ⟨u, f ++ f1, fk, f2, a1, by rw [a2, List.append_assoc], a3, fun ex k1 k2 h2 => ?_⟩
    have z := Owns.cons (h.keep ex k1.l) (a4 ex k1.r k2 h2)
    rw [List.append_assoc]
    exact z
theorem OwnK.at : ∀ {vs : List (Key × V)} {xs : List (D × OD)} {f : List Addr} {k : Nat} {d : D} {x : OD}, OwnK K B G H vs xs f → xs[k]? = some (d, x) → ∃ key u f1 fk f2, vs[k]? = some (key, u) ∧ f = f1 ++ (fk ++ f2) ∧ Own K B G H u x fk ∧ ((∃ i, key = .inl i ∧ d = .int i) ∨ ∃ s, key = .inr s ∧ d = .str s) ∧
    ∀ {G2 H2 : Hp} {x' : OD} {u' : V} {fk' : List Addr}, Ex G G2 → Kept G H G2 H2 f1 → Kept G H G2 H2 f2 → Own K B G2 H2 u' x' fk' → OwnK K B G2 H2 (vs.set k (key, u')) (xs.set k (d, x')) (f1 ++ (fk' ++ f2))
  | _, _, _, 0, _, _, .consI (i := i) (v := v) (f := f) (g := g) h t, e => by
    cases e
    exact ⟨_, v, [], f, g, rfl, rfl, h, .inl ⟨i, rfl, rfl⟩, fun ex _ k2 h2 => by rw [List.nil_append]; exact .consI h2 (t.keep ex k2)⟩
  | _, _, _, 0, _, _, .consS (x := i) (v := v) (f := f) (g := g) h t, e => by
    cases e
    exact ⟨_, v, [], f, g, rfl, rfl, h, .inr ⟨i, rfl, rfl⟩, fun ex _ k2 h2 => by rw [List.nil_append]; exact .consS h2 (t.keep ex k2)⟩
  | _, _, _, k + 1, d, x, .consI (i := i) (v := v) (f := f) h t, e => by
    obtain ⟨key, u, f1, fk, f2, a1, a2, a3, a5, a4⟩ := OwnK.at (k := k) (d := d) (x := x) t e
    refine ⟨key, u, f ++ f1, fk, f2, a1, by rw [a2, List.append_assoc], a3, a5, fun ex k1 k2 h2 => ?_⟩
    have z := OwnK.consI (i := i) (h.keep ex k1.l) (a4 ex k1.r k2 h2)
    rw [List.append_assoc]
    exact z
  | _, _, _, k + 1, d, x, .consS (x := i) (v := v) (f := f) h t, e => by
    obtain ⟨key, u, f1, fk, f2, a1, a2, a3, a5, a4⟩ := OwnK.at (k := k) (d := d) (x := x) t e
    refine ⟨key, u, f ++ f1, fk, f2, a1, by rw [a2, List.append_assoc], a3, a5, fun ex k1 k2 h2 => ?_⟩
    have z := OwnK.consS (x := i) (h.keep ex k1.l) (a4 ex k1.r k2 h2)
    rw [List.append_assoc]
    exact z
theorem OwnT.at : ∀ {vs : List (List Key × V)} {xs : List (D × OD)} {f : List Addr} {k : Nat} {d : D} {x : OD}, OwnT K B G H vs xs f → xs[k]? = some (d, x) → ∃ key u f1 fk f2, vs[k]? = some (key, u) ∧ f = f1 ++ (fk ++ f2) ∧ Own K B G H u x fk ∧ d = embT key ∧
    ∀ {G2 H2 : Hp} {x' : OD} {u' : V} {fk' : List Addr}, Ex G G2 → Kept G H G2 H2 f1 → Kept G H G2 H2 f2 → Own K B G2 H2 u' x' fk' → OwnT K B G2 H2 (vs.set k (key, u')) (xs.set k (d, x')) (f1 ++ (fk' ++ f2))
  | _, _, _, 0, _, _, .cons (k := i) (v := v) (f := f) (g := g) h t, e => by
    cases e
    exact ⟨_, v, [], f, g, rfl, rfl, h, rfl, fun ex _ k2 h2 => by rw [List.nil_append]; exact .cons h2 (t.keep ex k2)⟩
  | _, _, _, k + 1, d, x, .cons (k := i) (v := v) (f := f) h t, e => by
    obtain ⟨key, u, f1, fk, f2, a1, a2, a3, a5, a4⟩ := OwnT.at (k := k) (d := d) (x := x) t e
    refine ⟨key, u, f ++ f1, fk, f2, a1, by rw [a2, List.append_assoc], a3, a5, fun ex k1 k2 h2 => ?_⟩
    have z := OwnT.cons (k := i) (h.keep ex k1.l) (a4 ex k1.r k2 h2)
    rw [List.append_assoc]
    exact z
theorem set_get {α : Type} : ∀ {l : List α} {k : Nat} {a : α}, l[k]? = some a → l.set k a = l
  | _ :: _, 0, _, e => by cases e; rfl
  | x :: l, k + 1, a, e => by rw [List.set_cons_succ, set_get (l := l) (k := k) (a := a) e]
/-- the part's own places replaced within all of them -/
theorem nodup_mid {p : Addr} {f1 fk f2 fk' : List Addr} {fs : List Addr} (nd : (p :: (f1 ++ (fk ++ f2))).Nodup) (nk : fk'.Nodup) (h : ∀ q ∈ fk', q ∈ fs ∨ q ∈ fk) (hs : ∀ q ∈ fs, q ∈ fk ∨ q ∉ (p :: (f1 ++ (fk ++ f2)))) : (p :: (f1 ++ (fk' ++ f2))).Nodup := by
  obtain ⟨n0, n1⟩ := List.nodup_cons.mp nd
  obtain ⟨a1, a2, a3⟩ := List.nodup_append.mp n1
  obtain ⟨b1, b2, b3⟩ := List.nodup_append.mp a2
  have key : ∀ q ∈ fk', q ∈ fk ∨ q ∉ (p :: (f1 ++ (fk ++ f2))) := fun q hq => (h q hq).elim (hs q) .inl
  refine List.nodup_cons.mpr ⟨fun z => ?_, List.nodup_append.mpr ⟨a1, List.nodup_append.mpr ⟨nk, b2, fun x hx y hy e => ?_⟩, fun x hx y hy e => ?_⟩⟩
  · rcases List.mem_append.mp z with z | z
    · exact n0 (List.mem_append_left _ z)
    · rcases List.mem_append.mp z with z | z
      · rcases key p z with q | q
        · exact n0 (List.mem_append_right _ (List.mem_append_left _ q))
        · exact q List.mem_cons_self
      · exact n0 (List.mem_append_right _ (List.mem_append_right _ z))
  · subst e
    rcases key x hx with q | q
    · exact b3 x q x hy rfl
    · exact q (List.mem_cons_of_mem _ (List.mem_append_right _ (List.mem_append_right _ hy)))
  · subst e
    rcases List.mem_append.mp hy with hy | hy
    · rcases key x hy with q | q
      · exact a3 x hx x (List.mem_append_left _ q) rfl
      · exact q (List.mem_cons_of_mem _ (List.mem_append_left _ hx))
    · exact a3 x hx x (List.mem_append_right _ hy) rfl
def Focus (K : PySem.W.Frag) (B : Bx) (G H : Hp) (v : V) (o : OD) (f : List Addr) (π : List Nat) (s : OD) : Prop :=
  ∃ u fs, locV H v π = some u ∧ Own K B G H u s fs ∧ fs.Nodup ∧ (∀ p ∈ fs, p ∈ f) ∧
    ∀ {G2 H2 : Hp} {s' : OD} {fs' : List Addr}, Ex G G2 → (∀ p ∈ f, p ∉ fs → H2 p = H p ∧ G2 p = G p) → Own K B G2 H2 u s' fs' → fs'.Nodup → (∀ p ∈ fs', p ∈ fs ∨ p ∉ f) → ∃ f', Own K B G2 H2 v (setO o π s') f' ∧ f'.Nodup ∧ ∀ p ∈ f', p ∈ fs' ∨ p ∈ f
theorem focus : ∀ (π : List Nat) {v : V} {o s : OD} {f : List Addr}, Own K B G H v o f → f.Nodup → getO o π = some s → Focus K B G H v o f π s
  | [], v, o, s, f, h, nd, e => by
    have e : some o = some s := by cases o <;> exact e
    cases e
    exact ⟨v, f, (by cases v <;> rfl), h, nd, fun p hp => hp, fun {G2 H2 s' fs'} _ _ h2 n2 h3 => ⟨fs', (by have : setO o [] s' = s' := (by cases o <;> rfl); rw [this]; exact h2), n2, fun p hp => .inl hp⟩⟩
  | k :: π, _, .sh _, s, f, h, nd, e => nomatch e
  | k :: π, _, .lst xs, s, _, .lst (p := p) (vs := vs) (f := f) a1 a2 a3, nd, e => by
    have e : (match xs[k]? with | some x => getO x π | none => none) = some s := e
    cases hx : xs[k]? with
    | none => rw [hx] at e; cases e
    | some x =>
      rw [hx] at e
      obtain ⟨u, f1, fk, f2, b1, b2, b3, b4⟩ := a3.at hx
      subst b2
      have nk : fk.Nodup := (List.nodup_append.mp (List.nodup_append.mp (List.nodup_cons.mp nd).2).2.1).1
      obtain ⟨w, fs, c1, c2, c3, c4, c5⟩ := focus π b3 nk e
      refine ⟨w, fs, ?_, c2, c3, fun q hq => List.mem_cons_of_mem _ (List.mem_append_right _ (List.mem_append_left _ (c4 q hq))), fun {G2 H2 s' fs'} ex kp h2 n2 h3 => ?_⟩
      · show (match H p with | some (.lst vs) => _ | some (.dK vs) => _ | some (.dT vs) => _ | _ => none) = _
        rw [a1]
        show (match vs[k]? with | some u => locV H u π | none => none) = _
        rw [b1]
        exact c1
      · have dis : ∀ q, q ∈ fs → q ≠ p ∧ q ∉ f1 ∧ q ∉ f2 := fun q hq => by
          have hk := c4 q hq
          obtain ⟨n0, n1⟩ := List.nodup_cons.mp nd
          obtain ⟨_, m2, m3⟩ := List.nodup_append.mp n1
          obtain ⟨_, _, m4⟩ := List.nodup_append.mp m2
          exact ⟨fun z => n0 (by rw [← z]; exact List.mem_append_right _ (List.mem_append_left _ hk)), fun z => m3 q z q (List.mem_append_left _ hk) rfl, fun z => m4 q hk q z rfl⟩
        obtain ⟨fk', d1, d2, d3⟩ := c5 ex (fun q hq hn => kp q (List.mem_cons_of_mem _ (List.mem_append_right _ (List.mem_append_left _ hq))) hn) h2 n2 fun q hq => (h3 q hq).imp id fun z z2 => z (List.mem_cons_of_mem _ (List.mem_append_right _ (List.mem_append_left _ z2)))
        have k1 : Kept G H G2 H2 f1 := fun q hq => kp q (List.mem_cons_of_mem _ (List.mem_append_left _ hq)) fun z => (dis q z).2.1 hq
        have k2 : Kept G H G2 H2 f2 := fun q hq => kp q (List.mem_cons_of_mem _ (List.mem_append_right _ (List.mem_append_right _ hq))) fun z => (dis q z).2.2 hq
        have k0 := kp p List.mem_cons_self fun z => (dis p z).1 rfl
        have z := b4 ex k1 k2 d1
        rw [set_get b1] at z
        refine ⟨p :: (f1 ++ (fk' ++ f2)), ?_, nodup_mid nd d2 d3 fun q hq => (h3 q hq).imp (c4 q) id, fun q hq => ?_⟩
        · have es : setO (.lst xs) (k :: π) s' = .lst (xs.set k (setO x π s')) := by
            show (match xs[k]? with | some x => OD.lst (xs.set k (setO x π s')) | none => OD.lst xs) = _
            rw [hx]
          rw [es]
          exact .lst (k0.1.trans a1) (k0.2.trans a2) z
        · rcases List.mem_cons.mp hq with rfl | hq
          · exact .inr List.mem_cons_self
          · rcases List.mem_append.mp hq with hq | hq
            · exact .inr (List.mem_cons_of_mem _ (List.mem_append_left _ hq))
            · rcases List.mem_append.mp hq with hq | hq
              · exact (d3 q hq).imp id fun z => List.mem_cons_of_mem _ (List.mem_append_right _ (List.mem_append_left _ z))
              · exact .inr (List.mem_cons_of_mem _ (List.mem_append_right _ (List.mem_append_right _ hq)))
  | k :: π, _, .dic false xs, s, _, .dK (p := p) (kvs := vs) (f := f) a1 a2 a3, nd, e => by
    have e : (match xs[k]? with | some x => getO x.2 π | none => none) = some s := e
    cases hx : xs[k]? with
    | none => rw [hx] at e; cases e
    | some x =>
      obtain ⟨kd, x⟩ := x
      rw [hx] at e
      obtain ⟨key, u, f1, fk, f2, b1, b2, b3, _, b4⟩ := a3.at hx
      subst b2
      have nk : fk.Nodup := (List.nodup_append.mp (List.nodup_append.mp (List.nodup_cons.mp nd).2).2.1).1
      obtain ⟨w, fs, c1, c2, c3, c4, c5⟩ := focus π b3 nk e
      refine ⟨w, fs, ?_, c2, c3, fun q hq => List.mem_cons_of_mem _ (List.mem_append_right _ (List.mem_append_left _ (c4 q hq))), fun {G2 H2 s' fs'} ex kp h2 n2 h3 => ?_⟩
      · show (match H p with | some (.lst vs) => _ | some (.dK vs) => _ | some (.dT vs) => _ | _ => none) = _
        rw [a1]
        show (match vs[k]? with | some u => locV H u.2 π | none => none) = _
        rw [b1]
        exact c1
      · have dis : ∀ q, q ∈ fs → q ≠ p ∧ q ∉ f1 ∧ q ∉ f2 := fun q hq => by
          have hk := c4 q hq
          obtain ⟨n0, n1⟩ := List.nodup_cons.mp nd
          obtain ⟨_, m2, m3⟩ := List.nodup_append.mp n1
          obtain ⟨_, _, m4⟩ := List.nodup_append.mp m2
          exact ⟨fun z => n0 (by rw [← z]; exact List.mem_append_right _ (List.mem_append_left _ hk)), fun z => m3 q z q (List.mem_append_left _ hk) rfl, fun z => m4 q hk q z rfl⟩
        obtain ⟨fk', d1, d2, d3⟩ := c5 ex (fun q hq hn => kp q (List.mem_cons_of_mem _ (List.mem_append_right _ (List.mem_append_left _ hq))) hn) h2 n2 fun q hq => (h3 q hq).imp id fun z z2 => z (List.mem_cons_of_mem _ (List.mem_append_right _ (List.mem_append_left _ z2)))
        have k1 : Kept G H G2 H2 f1 := fun q hq => kp q (List.mem_cons_of_mem _ (List.mem_append_left _ hq)) fun z => (dis q z).2.1 hq
        have k2 : Kept G H G2 H2 f2 := fun q hq => kp q (List.mem_cons_of_mem _ (List.mem_append_right _ (List.mem_append_right _ hq))) fun z => (dis q z).2.2 hq
        have k0 := kp p List.mem_cons_self fun z => (dis p z).1 rfl
        have z := b4 ex k1 k2 d1
        rw [set_get b1] at z
        refine ⟨p :: (f1 ++ (fk' ++ f2)), ?_, nodup_mid nd d2 d3 fun q hq => (h3 q hq).imp (c4 q) id, fun q hq => ?_⟩
        · have es : setO (.dic false xs) (k :: π) s' = .dic false (xs.set k (kd, setO x π s')) := by
            show (match xs[k]? with | some x => OD.dic false (xs.set k (x.1, setO x.2 π s')) | none => OD.dic false xs) = _
            rw [hx]
          rw [es]
          exact .dK (k0.1.trans a1) (k0.2.trans a2) z
        · rcases List.mem_cons.mp hq with rfl | hq
          · exact .inr List.mem_cons_self
          · rcases List.mem_append.mp hq with hq | hq
            · exact .inr (List.mem_cons_of_mem _ (List.mem_append_left _ hq))
            · rcases List.mem_append.mp hq with hq | hq
              · exact (d3 q hq).imp id fun z => List.mem_cons_of_mem _ (List.mem_append_right _ (List.mem_append_left _ z))
              · exact .inr (List.mem_cons_of_mem _ (List.mem_append_right _ (List.mem_append_right _ hq)))
  | k :: π, _, .dic true xs, s, _, .dT (p := p) (kvs := vs) (f := f) a1 a2 a3, nd, e => by
    have e : (match xs[k]? with | some x => getO x.2 π | none => none) = some s := e
    cases hx : xs[k]? with
    | none => rw [hx] at e; cases e
    | some x =>
      obtain ⟨kd, x⟩ := x
      rw [hx] at e
      obtain ⟨key, u, f1, fk, f2, b1, b2, b3, _, b4⟩ := a3.at hx
      subst b2
      have nk : fk.Nodup := (List.nodup_append.mp (List.nodup_append.mp (List.nodup_cons.mp nd).2).2.1).1
      obtain ⟨w, fs, c1, c2, c3, c4, c5⟩ := focus π b3 nk e
      refine ⟨w, fs, ?_, c2, c3, fun q hq => List.mem_cons_of_mem _ (List.mem_append_right _ (List.mem_append_left _ (c4 q hq))), fun {G2 H2 s' fs'} ex kp h2 n2 h3 => ?_⟩
      · show (match H p with | some (.lst vs) => _ | some (.dK vs) => _ | some (.dT vs) => _ | _ => none) = _
        rw [a1]
        show (match vs[k]? with | some u => locV H u.2 π | none => none) = _
        rw [b1]
        exact c1
      · have dis : ∀ q, q ∈ fs → q ≠ p ∧ q ∉ f1 ∧ q ∉ f2 := fun q hq => by
          have hk := c4 q hq
          obtain ⟨n0, n1⟩ := List.nodup_cons.mp nd
          obtain ⟨_, m2, m3⟩ := List.nodup_append.mp n1
          obtain ⟨_, _, m4⟩ := List.nodup_append.mp m2
          exact ⟨fun z => n0 (by rw [← z]; exact List.mem_append_right _ (List.mem_append_left _ hk)), fun z => m3 q z q (List.mem_append_left _ hk) rfl, fun z => m4 q hk q z rfl⟩
        obtain ⟨fk', d1, d2, d3⟩ := c5 ex (fun q hq hn => kp q (List.mem_cons_of_mem _ (List.mem_append_right _ (List.mem_append_left _ hq))) hn) h2 n2 fun q hq => (h3 q hq).imp id fun z z2 => z (List.mem_cons_of_mem _ (List.mem_append_right _ (List.mem_append_left _ z2)))
        have k1 : Kept G H G2 H2 f1 := fun q hq => kp q (List.mem_cons_of_mem _ (List.mem_append_left _ hq)) fun z => (dis q z).2.1 hq
        have k2 : Kept G H G2 H2 f2 := fun q hq => kp q (List.mem_cons_of_mem _ (List.mem_append_right _ (List.mem_append_right _ hq))) fun z => (dis q z).2.2 hq
        have k0 := kp p List.mem_cons_self fun z => (dis p z).1 rfl
        have z := b4 ex k1 k2 d1
        rw [set_get b1] at z
        refine ⟨p :: (f1 ++ (fk' ++ f2)), ?_, nodup_mid nd d2 d3 fun q hq => (h3 q hq).imp (c4 q) id, fun q hq => ?_⟩
        · have es : setO (.dic true xs) (k :: π) s' = .dic true (xs.set k (kd, setO x π s')) := by
            show (match xs[k]? with | some x => OD.dic true (xs.set k (x.1, setO x.2 π s')) | none => OD.dic true xs) = _
            rw [hx]
          rw [es]
          exact .dT (k0.1.trans a1) (k0.2.trans a2) z
        · rcases List.mem_cons.mp hq with rfl | hq
          · exact .inr List.mem_cons_self
          · rcases List.mem_append.mp hq with hq | hq
            · exact .inr (List.mem_cons_of_mem _ (List.mem_append_left _ hq))
            · rcases List.mem_append.mp hq with hq | hq
              · exact (d3 q hq).imp id fun z => List.mem_cons_of_mem _ (List.mem_append_right _ (List.mem_append_left _ z))
              · exact .inr (List.mem_cons_of_mem _ (List.mem_append_right _ (List.mem_append_right _ hq)))
end
end DL
namespace DL
open PySem PySem.Spec PyProof.Rows L2 Evl
abbrev DR := DS → (Nat → List Nat → Prop) → Prop
def liftR (K : PySem.W.Frag) (B : Bx) (ρ : DR) : TE := fun σ H P => ∃ (H0 G : Hp) (δ : DS) (Q : Nat → List Nat → Prop), Jn K B G H ∧ StOk K B H0 G H σ δ ∧ ρ δ Q ∧ ∀ i π v0 v G2 H2, Q i π → Gr K B G H G2 H2 → σ[i]? = some (some v0) → locV H2 v0 π = some v → P v H2
abbrev PR (X : Cx) (B : Bx) (e : Expr) (ρ : DR) : Prop := PE X e (liftR X.K B ρ)
def getS (δ : DS) (i : Nat) (π : List Nat) : Option OD := match δ[i]? with
  | some (some (.ow _ o)) => getO o π
  | _ => none
def putS (δ : DS) (i : Nat) (π : List Nat) (s : OD) : DS := match δ[i]? with
  | some (some (.ow v o)) => δ.set i (some (.ow v (setO o π s)))
  | _ => δ
theorem getS_at {δ : DS} {i : Nat} {π : List Nat} {s : OD} (h : getS δ i π = some s) : ∃ v o, δ[i]? = some (some (.ow v o)) ∧ getO o π = some s := by
  unfold getS at h
  split at h
  · exact ⟨_, _, by assumption, h⟩
  · cases h
theorem putS_at {δ : DS} {i : Nat} {π : List Nat} {v : V} {o : OD} (h : δ[i]? = some (some (.ow v o))) (s : OD) : putS δ i π s = δ.set i (some (.ow v (setO o π s))) := by
  unfold putS
  rw [h]
def lstAt (δ : DS) (i : Nat) (π : List Nat) (K : List OD → Prop) : Prop := match getS δ i π with
  | some (.lst xs) => K xs
  | _ => False
def dicAt (δ : DS) (i : Nat) (π : List Nat) (K : Bool → List (D × OD) → Prop) : Prop := match getS δ i π with
  | some (.dic t ks) => K t ks
  | _ => False
theorem lstAt_at {δ : DS} {i : Nat} {π : List Nat} {K : List OD → Prop} (h : lstAt δ i π K) : ∃ xs, getS δ i π = some (.lst xs) ∧ K xs := by
  unfold lstAt at h
  split at h
  · exact ⟨_, by assumption, h⟩
  · exact h.elim
theorem dicAt_at {δ : DS} {i : Nat} {π : List Nat} {K : Bool → List (D × OD) → Prop} (h : dicAt δ i π K) : ∃ t ks, getS δ i π = some (.dic t ks) ∧ K t ks := by
  unfold dicAt at h
  split at h
  · exact ⟨_, _, by assumption, h⟩
  · exact h.elim
section
variable {K : PySem.W.Frag} {B : Bx} {G H H0 : Hp} {σ : L2.St} {δ : DS}
theorem loc_keep {H2 : Hp} : ∀ (π : List Nat) {v : V} {o s : OD} {f : List Addr}, Own K B G H v o f → getO o π = some s → (∀ p ∈ f, H2 p = H p) → locV H2 v π = locV H v π
  | [], v, _, _, _, _, _, _ => by cases v <;> rfl
  | k :: π, _, .sh _, s, f, h, e, _ => nomatch e
  | k :: π, _, .lst xs, s, _, .lst (p := p) (vs := vs) (f := f) a1 a2 a3, e, hk => by
    have e : (match xs[k]? with | some x => getO x π | none => none) = some s := e
    cases hx : xs[k]? with
    | none => rw [hx] at e; cases e
    | some x =>
      rw [hx] at e
      obtain ⟨u, f1, fk, f2, b1, b2, b3, _⟩ := a3.at hx
      subst b2
      have ih := loc_keep π b3 e fun q hq => hk q (List.mem_cons_of_mem _ (List.mem_append_right _ (List.mem_append_left _ hq)))
      show (match H2 p with | some (.lst vs) => (match vs[k]? with | some u => locV H2 u π | none => none) | some (.dK vs) => _ | some (.dT vs) => _ | _ => none) = (match H p with | some (.lst vs) => (match vs[k]? with | some u => locV H u π | none => none) | some (.dK vs) => _ | some (.dT vs) => _ | _ => none)
      rw [hk p List.mem_cons_self, a1]
      show (match vs[k]? with | some u => locV H2 u π | none => none) = (match vs[k]? with | some u => locV H u π | none => none)
      rw [b1]
      exact ih
  | k :: π, _, .dic false xs, s, _, .dK (p := p) (kvs := vs) (f := f) a1 a2 a3, e, hk => by
    have e : (match xs[k]? with | some x => getO x.2 π | none => none) = some s := e
    cases hx : xs[k]? with
    | none => rw [hx] at e; cases e
    | some x =>
      obtain ⟨kd, x⟩ := x
      rw [hx] at e
      obtain ⟨key, u, f1, fk, f2, b1, b2, b3, _⟩ := a3.at hx
      subst b2
      have ih := loc_keep π b3 e fun q hq => hk q (List.mem_cons_of_mem _ (List.mem_append_right _ (List.mem_append_left _ hq)))
      show (match H2 p with | some (.lst vs) => _ | some (.dK vs) => (match vs[k]? with | some u => locV H2 u.2 π | none => none) | some (.dT vs) => _ | _ => none) = (match H p with | some (.lst vs) => _ | some (.dK vs) => (match vs[k]? with | some u => locV H u.2 π | none => none) | some (.dT vs) => _ | _ => none)
      rw [hk p List.mem_cons_self, a1]
      show (match vs[k]? with | some u => locV H2 u.2 π | none => none) = (match vs[k]? with | some u => locV H u.2 π | none => none)
      rw [b1]
      exact ih
  | k :: π, _, .dic true xs, s, _, .dT (p := p) (kvs := vs) (f := f) a1 a2 a3, e, hk => by
    have e : (match xs[k]? with | some x => getO x.2 π | none => none) = some s := e
    cases hx : xs[k]? with
    | none => rw [hx] at e; cases e
    | some x =>
      obtain ⟨kd, x⟩ := x
      rw [hx] at e
      obtain ⟨key, u, f1, fk, f2, b1, b2, b3, _⟩ := a3.at hx
      subst b2
      have ih := loc_keep π b3 e fun q hq => hk q (List.mem_cons_of_mem _ (List.mem_append_right _ (List.mem_append_left _ hq)))
      show (match H2 p with | some (.lst vs) => _ | some (.dK vs) => _ | some (.dT vs) => (match vs[k]? with | some u => locV H2 u.2 π | none => none) | _ => none) = (match H p with | some (.lst vs) => _ | some (.dK vs) => _ | some (.dT vs) => (match vs[k]? with | some u => locV H u.2 π | none => none) | _ => none)
      rw [hk p List.mem_cons_self, a1]
      show (match vs[k]? with | some u => locV H2 u.2 π | none => none) = (match vs[k]? with | some u => locV H u.2 π | none => none)
      rw [b1]
      exact ih
/-- the place that was told, later: it is where it was, and what stands there may be changed -/
theorem StOk.place {i : Nat} {π : List Nat} {v0 v : V} {s : OD} {G2 H2 : Hp} (st : StOk K B H0 G H σ δ) (hs : getS δ i π = some s) (h0 : σ[i]? = some (some v0)) (hv : locV H v0 π = some v) (g : Gr K B G H G2 H2) :
    ∃ fs, Own K B G2 H2 v s fs ∧ fs.Nodup ∧ (∀ p ∈ fs, H0 p = none ∧ B.nb p) ∧ locV H2 v0 π = some v ∧
      ∀ p ho s' fs', p ∈ fs → Own K B G2 (upd H2 p ho) v s' fs' → fs'.Nodup → (∀ q ∈ fs', q ∈ fs) → StOk K B H0 G2 (upd H2 p ho) σ (putS δ i π s') := by
  obtain ⟨w, o, h1, h2⟩ := getS_at hs
  obtain ⟨F, y⟩ := st.ex
  obtain ⟨e1, e2, e3, e4⟩ := y.ow h1
  rw [h0] at e1
  cases e1
  have y2 := y.gr g
  obtain ⟨e1, c2, _, _⟩ := y2.ow h1
  obtain ⟨u, fs, a1, a2, a3, a4, a5⟩ := focus π c2 e3 h2
  have kp : ∀ p ∈ F i, H2 p = H p := fun p hp => by
    have n := e2.node p hp
    cases q : H p with
    | none => exact absurd q n.at.ne
    | some ob => exact g.keep p ob (e4 p hp).2 q
  have hl := loc_keep (H2 := H2) π e2 h2 kp
  rw [hl, hv] at a1
  cases a1
  refine ⟨fs, a2, a3, fun p hp => e4 p (a4 p hp), hl.trans hv, fun p ho s' fs' hp hw nd hf => ?_⟩
  obtain ⟨f', d1, d2, d3⟩ := a5 (Ex.refl G2) (fun q hq hn => ⟨upd_ne fun z => hn (z ▸ hp), rfl⟩) hw nd fun q hq => .inl (hf q hq)
  rw [putS_at h1]
  have all : ∀ q ∈ f', q ∈ F i := fun q hq => (d3 q hq).elim (fun z => a4 q (hf q z)) id
  have z := y2.put (i := i) (List.getElem?_eq_some_iff.mp e1).1 (Ex.refl G2) (H2 := upd H2 p ho) (fun q _ _ hq => ⟨upd_ne fun e => hq (e ▸ a4 p hp), rfl⟩) (.ow d1 d2 fun q hq => e4 q (all q hq)) fun q hq => .inr (all q hq)
  rw [set_same e1] at z
  exact ⟨_, z⟩
end
section
variable {X : Cx} {B : Bx} {e o i : Expr} {r ri : DE} {ρ : DR} {pos : Pos}
def rVar (i : Nat) : DR := fun δ Q => ownO δ[i]? fun _ _ => Q i []
theorem pr_var {k : Nat} (h : PE X e (tVar k)) : PR X B e (rVar k) := pe_mono h fun σ H P q => by
  obtain ⟨H0, G, δ, Q, j, st, hr, kk⟩ := q
  have hr : ownO δ[k]? fun _ _ => Q k [] := hr
  unfold ownO at hr
  split at hr
  · rename_i v o h1
    obtain ⟨F, y⟩ := st.ex
    have e1 := (y.ow h1).1
    exact ⟨v, e1, kk k [] v v G H hr (Gr.refl j) e1 (by cases v <;> rfl)⟩
  · exact hr.elim
def ixR (d : D) (n : Nat) (K : Nat → Prop) : Prop := match d with
  | .int k => (0 ≤ k ∧ k < n) ∧ K k.toNat
  | _ => False
/-- x[i] -/
def rIx (ρ : DR) (ri : DE) : DR := fun δ Q => ρ δ fun i π => ri δ fun d => lstAt δ i π fun xs => ixR d xs.length fun n => Q i (π ++ [n])
theorem loc_app {H : Hp} : ∀ (π : List Nat) {v u : V} {p : Addr} {vs : List V} {k : Nat} {w : V}, locV H v π = some u → u = .ref p → H p = some (.lst vs) → vs[k]? = some w → locV H v (π ++ [k]) = some w
  | [], v, u, p, vs, k, w, h, hu, hp, hk => by
    have h : some v = some u := by cases v <;> exact h
    cases h
    subst hu
    show (match H p with | some (.lst vs) => (match vs[k]? with | some u => locV H u [] | none => none) | some (.dK vs) => _ | some (.dT vs) => _ | _ => none) = _
    rw [hp]
    show (match vs[k]? with | some u => locV H u [] | none => none) = _
    rw [hk]
    cases w <;> rfl
  | n :: π, v, u, p, vs, k, w, h, hu, hp, hk => by
    cases v with
    | ref a =>
      have h : (match H a with | some (.lst vs) => (match vs[n]? with | some u => locV H u π | none => none) | some (.dK vs) => (match vs[n]? with | some u => locV H u.2 π | none => none) | some (.dT vs) => (match vs[n]? with | some u => locV H u.2 π | none => none) | _ => none) = some u := h
      show (match H a with | some (.lst vs) => (match vs[n]? with | some u => locV H u (π ++ [k]) | none => none) | some (.dK vs) => (match vs[n]? with | some u => locV H u.2 (π ++ [k]) | none => none) | some (.dT vs) => (match vs[n]? with | some u => locV H u.2 (π ++ [k]) | none => none) | _ => none) = _
      split at h
      · split at h
        · exact loc_app π h hu hp hk
        · cases h
      · split at h
        · exact loc_app π h hu hp hk
        · cases h
      · split at h
        · exact loc_app π h hu hp hk
        · cases h
      · cases h
    | _ => cases h
theorem pr_ix (ho : PR X B o ρ) (hi : PD X B i ri) (hs : PlainIx i := by intro _ _; rfl) : PR X B (.Subscript o i pos) (rIx ρ ri) := pe_mono (pe_ix ix_list ho hi hs) fun σ H P q => by
  obtain ⟨H0, G, δ, Q, j, st, hr, k⟩ := q
  refine ⟨H0, G, δ, _, j, st, hr, fun i π v0 v G2 H2 q2 g2 h0 hv => ?_⟩
  refine ⟨H0, G2, δ, _, g2.j, st.gr g2, q2, fun d u G3 H3 q3 g3 h3 => ?_⟩
  obtain ⟨xs, hx, q3⟩ := lstAt_at q3
  cases h3 with
  | int n =>
    obtain ⟨⟨n0, n1⟩, q3⟩ := q3
    obtain ⟨fs, a1, a2, a3, a4, _⟩ := (st.gr g2).place hx h0 hv g3
    cases a1 with
    | @lst p vs _ f b1 b2 b3 =>
      have hl : n.toNat < vs.length := by rw [b3.len]; omega
      have hk : vs[n.toNat]? = some vs[n.toNat] := List.getElem?_eq_getElem hl
      exact ⟨p, vs, n, _, rfl, rfl, sq_of b1, atI_q n0 hk, k i _ v0 _ G3 H3 q3 (g2.trans g3) h0 (loc_app π a4 rfl b1 hk)⟩
  | _ => exact q3.elim
/-- x.append(e), at a place -/
def dAppR (ρ : DR) (r : DE) : DTS := fun W δ => ρ δ fun i π => lstAt δ i π fun xs => r δ fun d => xs.length < sizeLine ∧ W.nx (putS δ i π (.lst (xs ++ [.sh d])))
theorem psd_appR {apos cpos : Pos} (ho : PR X B o ρ) (he : PD X B e r)
    (hbase : attributeBase o "append" X.env (eval o X.env) = eval o X.env := by rfl)
    (hfew : ((backTo cpos (starEach [e] X.env)).all (fun x => !x.1) && (backToKw cpos (keywordEach [] X.env)).all (fun x => x.1.isSome) && decide ([e].length + ([] : List Keyword).length + (if ([] : List Keyword).isEmpty then 0 else 1) < 30)) = true := by rfl)
    (hline : (apos.endLine == cpos.line) = true := by rfl) (hs : starEach [e] X.env = (false, eval e X.env) :: starEach [] X.env := by rfl) (hplain : (backTo cpos (starEach [] X.env)).any (·.1) = false := by rfl)
    (hsw : swapsWith (.Call (.Attribute o "append" apos) [e] [] cpos) none pos.line X.env = pure false := by rfl) :
    PSD X B (.Expr (.Call (.Attribute o "append" apos) [e] [] cpos) pos) (dAppR ρ r) := ps_mono (ps_expr (pe_bm PySem.F.plainAttrs_list PySem.F.slot_list_append PySem.F.type_list_append mt_append ho (pa_cons he pa_nil hs) hbase hfew hline hs hplain) hsw) fun E σ H q => by
  obtain ⟨G0, H0, G, δ, W, g0, st, h, k⟩ := q
  refine ⟨H0, G, δ, _, g0.j, st, h, fun i π v0 v G2 H2 q2 g2 h0 hv => ?_⟩
  obtain ⟨xs, hx, q2⟩ := lstAt_at q2
  obtain ⟨_, a1, _⟩ := (st.gr g2).place hx h0 hv (Gr.refl g2.j)
  cases a1 with
  | @lst p vs _ f b1 b2 b3 =>
    refine ⟨.inl ⟨rfl, vs, sq_of b1⟩, H0, G2, δ, _, g2.j, st.gr g2, q2, fun d u G3 H3 q3 g3 h3 => ?_⟩
    obtain ⟨fs, c1, c2, c3, _, c5⟩ := (st.gr g2).place hx h0 hv g3
    cases c1 with
    | @lst _ vs' _ f' d1 d2 d3 =>
      refine ⟨p, vs', u, rfl, rfl, d1, by rw [d3.len]; exact q3.1, ?_⟩
      have hp := c3 p List.mem_cons_self
      have np := (List.nodup_cons.mp c2).1
      refine k.nx _ _ _ _ q3.2 (((g0.trans g2).trans g3).own hp.1 d2 hp.2) (g2.ex.trans g3.ex) (c5 p _ _ (p :: f') List.mem_cons_self (.lst upd_same d2 ?_) c2 fun q hq => hq)
      have c4 := (d3.past (ho := .lst (vs' ++ [u])) np).append (Owns.cons (H := upd H3 p (.lst (vs' ++ [u]))) (.sh h3) .nil)
      rw [List.append_nil, List.append_nil] at c4
      exact c4
end
end DL
namespace DL
open PySem PySem.Spec PyProof.Rows L2 Evl
section
variable {X : Cx} {B : Bx} {e o a b c : Expr} {es : List Expr} {r ra rb : DE} {pos : Pos} {C k k' i : Nat} {S : FO} {rA : DA} {rao : OA} {m : Str} {g : Addr}
def oMeth (C : Nat) (S : FO) (r : DE) (ra : DA) : OE := fun δ Q => r δ fun d => isO C d ∧ ra δ fun ds => S (d :: ds) Q
theorem po_meth {pl : Sem Bool} {apos : Pos} (c : SlX.SCls X.K (B.ct C)) (hm : Meth X.K (B.ct C) m g) (F : FnR X.prog X.w X.K X.mg X.base CX0 k g (spO X.K B S)) (hr : Room k X.A) (he : PD X B o r) (ha : PAD X B (e :: es) rA)
    (hst : starEach (e :: es) X.env = (false, eval e X.env) :: starEach es X.env := by rfl) (hpl : (backTo pos (starEach es X.env)).any (·.1) = false := by rfl)
    (ht : eval (.Call (.Attribute o m apos) (e :: es) [] pos) X.env = (do let ov ← eval o X.env; standAt apos.atName; let (f, first) ← holding [ov] (getMethod ov m pl); callWith pos f first (backTo pos (starEach (e :: es) X.env)) (backToKw pos (keywordEach [] X.env))) := by rfl) :
    PO X B (.Call (.Attribute o m apos) (e :: es) [] pos) (oMeth C S r rA) := pe_mono (SlX.pe_methSl (E := E0) he c hm F hr pass0 ha hst hpl ht) fun σ H P q => by
  obtain ⟨H0, G, δ, Q, j, st, hr, k⟩ := q
  refine ⟨H0, G, δ, _, j, st, hr, fun d v G2 H2 q2 g2 h2 => ?_⟩
  obtain ⟨ho, q2⟩ := q2
  cases h2 with
  | @obj a dx C' vs fs h3 h4 h5 =>
    have ho : C' = C := ho
    subst ho
    refine ⟨a, dx, vs.map some, rfl, obj_slt (K := X.K) (B := B) g2.j.ex h3 h4, H0, G2, δ, _, g2.j, st.gr g2, q2, fun ds ws G3 H3 q3 g3 h6 => ?_⟩
    exact ⟨G3, _, Q, g3.j, .cons ((Dat.obj h3 h4 h5).mono g3.ex) h6, q3, fun o v f G4 H4 q4 g4 h7 f7 => k o v f G4 H4 q4 ((g2.trans g3).trans g4) h7 (f7.back (g2.trans g3))⟩
  | _ => exact ho.elim
theorem po_meth0 {pl : Sem Bool} {apos : Pos} (c : SlX.SCls X.K (B.ct C)) (hm : Meth X.K (B.ct C) m g) (F : FnR X.prog X.w X.K X.mg X.base CX0 k g (spO X.K B S)) (hr : Room k X.A) (he : PD X B o r)
    (ht : eval (.Call (.Attribute o m apos) [] [] pos) X.env = (do let ov ← eval o X.env; standAt apos.atName; let (f, first) ← holding [ov] (getMethod ov m pl); callWith pos f first (backTo pos (starEach [] X.env)) (backToKw pos (keywordEach [] X.env))) := by rfl) :
    PO X B (.Call (.Attribute o m apos) [] [] pos) (oMeth C S r dNil) := pe_mono (SlX.pe_methSl0 (E := E0) he c hm F hr pass0 ht) fun σ H P q => by
  obtain ⟨H0, G, δ, Q, j, st, hr, k⟩ := q
  refine ⟨H0, G, δ, _, j, st, hr, fun d v G2 H2 q2 g2 h2 => ?_⟩
  obtain ⟨ho, q2⟩ := q2
  cases h2 with
  | @obj a dx C' vs fs h3 h4 h5 =>
    have ho : C' = C := ho
    subst ho
    exact ⟨a, dx, vs.map some, rfl, obj_slt (K := X.K) (B := B) g2.j.ex h3 h4, G2, _, Q, g2.j, .cons (.obj h3 h4 h5) .nil, q2, fun o v f G3 H3 q3 g3 h3 f3 => k o v f G3 H3 q3 (g2.trans g3) h3 (f3.back g2)⟩
  | _ => exact ho.elim
theorem pf_new {K : PySem.W.Frag} {G H G2 H2 : Hp} {p : Addr} {vs : List V} {ds : List D} {P : VK} {Q : List D → Prop} (k : ∀ ds p vs G2 H2, Q ds → Gr K B G H G2 H2 → H p = none → G2 p = none → H2 p = some (.lst vs) → Dats K B G2 vs ds → P (.ref p) H2) (g : Gr K B G H G2 H2) (hp : H2 p = none) (hd : Dats K B G2 vs ds) (q : Q ds) : P (.ref p) (upd H2 p (.lst vs)) :=
  k ds p vs G2 _ q (g.trans (Gr.new0 g.j hp)) (g.free hp) (fresh_back g.j.ex hp) upd_same hd
/-- list(e) -/
def fList (ra : DA) : DA := fun δ Q => ra δ fun ds => match ds with
  | [.lst xs] => Q xs
  | [.tup xs] => Q xs
  | _ => False
theorem pf_list {p : Pos} (hg : Gl X "list") (hm : X.mg "list" = none) (ha : PAD X B [e] rA) (he : starEach [e] X.env = (false, eval e X.env) :: starEach [] X.env := by rfl) (hpl : (backTo pos (starEach [] X.env)).any (·.1) = false := by rfl) :
    PF X B (.Call (.Name "list" p) [e] [] pos) (fList rA) := pe_mono (pe_callTy call_list_of hg hm (by decide +kernel) ha (by decide) (by decide) he hpl) fun σ H P q => by
  obtain ⟨H0, G, δ, Q, j, st, hr, k⟩ := q
  refine ⟨H0, G, δ, _, j, st, hr, fun ds vs G2 H2 q2 g2 h2 => ?_⟩
  cases h2 with
  | nil => exact q2.elim
  | cons h3 h4 =>
    cases h4 with
    | cons _ _ => cases h3 <;> exact q2.elim
    | nil =>
      cases h3 with
      | lst h5 h6 => exact ⟨_, _, rfl, .inl (sq_of (g2.j.ex _ _ h5)), fun p hp => pf_new k g2 hp h6 q2⟩
      | tup h5 h6 => exact ⟨_, _, rfl, .inr (tx g2.j.ex h5), fun p hp => pf_new k g2 hp h6 q2⟩
      | _ => exact q2.elim
def slotOf (v : V) : OD → SD
  | .sh d => .sh d
  | o => .ow v o
theorem st_setF {K : PySem.W.Frag} {H0 G H : Hp} {σ : L2.St} {δ : DS} {i : Nat} {v : V} {o : OD} {f : List Addr} {F : Nat → List Addr} (y : StF K B H0 G H σ δ F) (hw : Own K B G H v o f) (nd : f.Nodup) (hf : ∀ p ∈ f, H0 p = none ∧ B.nb p) (new : ∀ j, j < σ.length → ∀ p ∈ f, p ∉ F j) :
    ∃ F', StF K B H0 G H (σ.set i (some v)) (δ.set i (some (slotOf v o))) F' ∧ ∀ j, j < σ.length → ∀ p ∈ F' j, p ∈ f ∨ p ∈ F j := by
  have key : SlotOk K B H0 G H (some v) (some (slotOf v o)) f := by
    cases o with
    | sh d => cases hw with | sh h => exact .sh h
    | lst xs => exact .ow hw nd hf
    | dic t ks => exact .ow hw nd hf
  by_cases hi : i < σ.length
  · refine ⟨fun j => if j = i then f else F j, ⟨by rw [List.length_set, List.length_set]; exact y.len, fun j uv ud h1 h2 => ?_, fun a b ha hb hab p hp hq => ?_⟩, fun j _ p hp => ?_⟩
    · by_cases hj : i = j
      · subst hj
        rw [List.getElem?_set_self hi] at h1
        rw [List.getElem?_set_self (by rw [← y.len]; exact hi)] at h2
        cases h1
        cases h2
        rw [if_pos rfl]
        exact key
      · rw [List.getElem?_set_ne hj] at h1 h2
        rw [if_neg (Ne.symm hj)]
        exact y.at_ j uv ud h1 h2
    · rw [List.length_set] at ha hb
      by_cases h1 : a = i
      · rw [if_pos h1] at hp
        rw [if_neg fun z => hab (h1.trans z.symm)] at hq
        exact new b hb p hp hq
      · rw [if_neg h1] at hp
        by_cases h2 : b = i
        · rw [if_pos h2] at hq
          exact new a ha p hq hp
        · rw [if_neg h2] at hq
          exact y.dj a b ha hb hab p hp hq
    · have hp : p ∈ (if j = i then f else F j) := hp
      by_cases h : j = i
      · rw [if_pos h] at hp; exact .inl hp
      · rw [if_neg h] at hp; exact .inr hp
  · rw [set_out hi, set_out (by rw [← y.len]; exact hi)]
    exact ⟨F, y, fun j _ p hp => .inr hp⟩
theorem fresh_new {K : PySem.W.Frag} {H0 G H G2 H2 : Hp} {σ : L2.St} {δ : DS} {F : Nat → List Addr} {f : List Addr} (y : StF K B H0 G H σ δ F) (hf : Fresh B H f) : ∀ j, j < σ.length → ∀ p ∈ f, p ∉ F j := fun j hj p hp hq => by
  obtain ⟨ud, hud⟩ : ∃ ud, δ[j]? = some ud := ⟨δ[j]'(by rw [← y.len]; exact hj), List.getElem?_eq_getElem _⟩
  obtain ⟨uv, huv, q⟩ := y.get hud
  exact (q.at p hq).1.ne (hf.2 p hp).1
def dPar3 (i j l : Nat) (ra : OA) : DTS := fun W δ => ra δ fun os => match os with
  | [x, y, z] => ∀ u v w, W.nx (((δ.set i (some (slotOf u x))).set j (some (slotOf v y))).set l (some (slotOf w z)))
  | _ => False
theorem psd_par3 {i j l : Nat} {x y z : Str} {px py pz pt : Pos} {kt k2 pt2} (hc : X.calm = true) (hN : X.N.Nodup) (hi : X.N[i]? = some x) (hj : X.N[j]? = some y) (hl : X.N[l]? = some z) (hij : i ≠ j) (hil : i ≠ l) (hjl : j ≠ l)
    (hx : X.env.scope.names.lookup x = some .local) (hy : X.env.scope.names.lookup y = some .local) (hz : X.env.scope.names.lookup z = some .local) (ha : PAO X B [a, b, c] rao)
    (hw : swappedStores [.Tuple [.Name x px, .Name y py, .Name z pz] kt pt] (.Tuple [a, b, c] k2 pt2) X.env = pure (some [x, y, z]))
    (hs : swapsWithSole [.Tuple [.Name x px, .Name y py, .Name z pz] kt pt] (.Tuple [a, b, c] k2 pt2) pos.line X.env = pure false := by rfl) :
    PSD X B (.Assign [.Tuple [.Name x px, .Name y py, .Name z pz] kt pt] (.Tuple [a, b, c] k2 pt2) pos) (dPar3 i j l rao) := ps_mono (ps_par3 hc hN hi hj hl hij hil hjl hx hy hz ha hw hs) fun E σ H q => by
  obtain ⟨G0, H0, G, δ, W, g, s, h, k⟩ := q
  refine ⟨H0, G, δ, _, g.j, s, h, fun os vs f G2 H2 q2 g2 h2 f2 => ?_⟩
  cases h2 with
  | nil => exact q2.elim
  | @cons v1 o1 f1 _ _ _ h3 h4 =>
    cases h4 with
    | nil => exact q2.elim
    | @cons v2 o2 f2' _ _ _ h5 h6 =>
      cases h6 with
      | nil => exact q2.elim
      | @cons v3 o3 f3' _ _ _ h7 h8 =>
        cases h8 with
        | cons _ _ => exact q2.elim
        | nil =>
          have q2 : ∀ u v w, W.nx (((δ.set i (some (slotOf u o1))).set j (some (slotOf v o2))).set l (some (slotOf w o3))) := q2
          rw [List.append_nil] at f2
          obtain ⟨n1, n2, n3⟩ := List.nodup_append.mp f2.1
          obtain ⟨m1, m2, m3⟩ := List.nodup_append.mp n2
          have a1 : ∀ p ∈ f1, H0 p = none ∧ B.nb p := fun p hp => (f2.back g).2 p (List.mem_append_left _ hp)
          have a2 : ∀ p ∈ f2', H0 p = none ∧ B.nb p := fun p hp => (f2.back g).2 p (List.mem_append_right _ (List.mem_append_left _ hp))
          have a3 : ∀ p ∈ f3', H0 p = none ∧ B.nb p := fun p hp => (f2.back g).2 p (List.mem_append_right _ (List.mem_append_right _ hp))
          obtain ⟨F, y0⟩ := s.ex
          have y2 := y0.gr g2
          have nw := fresh_new (G2 := G2) (H2 := H2) y0 f2
          obtain ⟨F1, y3, s3⟩ := st_setF (i := i) y2 h3 n1 a1 fun l hl p hp => nw l hl p (List.mem_append_left _ hp)
          have y3b : ∀ l, l < (σ.set i (some v1)).length → l < σ.length := fun l hl => by rw [List.length_set] at hl; exact hl
          obtain ⟨F2, y4, s4⟩ := st_setF (i := j) y3 h5 m1 a2 fun l hl p hp hq => by
            rcases s3 l (y3b l hl) p hq with z | z
            · exact n3 p z p (List.mem_append_left _ hp) rfl
            · exact nw l (y3b l hl) p (List.mem_append_right _ (List.mem_append_left _ hp)) z
          obtain ⟨F3, y5, _⟩ := st_setF (i := l) y4 h7 m2 a3 fun l hl p hp hq => by
            rw [List.length_set] at hl
            rcases s4 l hl p hq with z | z
            · exact m3 p z p hp rfl
            · rcases s3 l (y3b l hl) p z with z | z
              · exact n3 p z p (List.mem_append_right _ hp) rfl
              · exact nw l (y3b l hl) p (List.mem_append_right _ (List.mem_append_right _ hp)) z
          exact ⟨_, _, _, rfl, k.nx _ _ G2 H2 (q2 v1 v2 v3) (g.trans g2) g2.ex ⟨F3, y5⟩⟩
end
end DL
namespace DL
open PySem PySem.Spec PyProof.Rows L2 Evl
def dk1 : D → Option Key
  | .int i => some (.inl i)
  | .str x => some (.inr x)
  | _ => none
def dkL : List D → Option (List Key)
  | [] => some []
  | d :: ds => match dk1 d, dkL ds with
    | some k, some ks => some (k :: ks)
    | _, _ => none
def dkT : D → Option (List Key)
  | .tup ds => dkL ds
  | _ => none
theorem dk1_emb (k : Key) : dk1 (embK k) = some k := by cases k <;> rfl
theorem dkL_emb : ∀ k : List Key, dkL (k.map embK) = some k
  | [] => rfl
  | a :: k => by rw [List.map_cons, dkL, dk1_emb, dkL_emb k]
theorem dkT_emb (k : List Key) : dkT (embT k) = some k := dkL_emb k
theorem emb_dk1 {d : D} {k : Key} (h : dk1 d = some k) : d = embK k := by
  cases d with
  | int i => cases h; rfl
  | str x => cases h; rfl
  | _ => cases h
theorem emb_dkL : ∀ {ds : List D} {k : List Key}, dkL ds = some k → ds = k.map embK
  | [], _, h => by cases h; rfl
  | d :: ds, k, h => by
    unfold dkL at h
    cases h1 : dk1 d with
    | none => rw [h1] at h; cases h
    | some a =>
      cases h2 : dkL ds with
      | none => rw [h1, h2] at h; cases h
      | some b =>
        rw [h1, h2] at h
        cases h
        rw [List.map_cons, ← emb_dk1 h1, ← emb_dkL h2]
theorem emb_dkT {d : D} {k : List Key} (h : dkT d = some k) : d = embT k := by
  cases d with
  | tup ds => exact congrArg D.tup (emb_dkL h)
  | _ => cases h
/-- two keys are one -/
def keqD (x y : D) : Bool := match dk1 x, dk1 y with
  | some a, some b => decide (a = b)
  | _, _ => match dkT x, dkT y with
    | some a, some b => decide (a = b)
    | _, _ => false
theorem keqD_K (a b : Key) : keqD (embK a) (embK b) = decide (a = b) := by unfold keqD; rw [dk1_emb, dk1_emb]
theorem keqD_T (a b : List Key) : keqD (embT a) (embT b) = decide (a = b) := by
  unfold keqD
  have h1 : dk1 (embT a) = none := rfl
  rw [h1, dkT_emb, dkT_emb]
def putO {α : Type} (ks : List (D × α)) (y : D) (o : α) : List (D × α) := if (ks.any fun z => keqD z.1 y) = true then ks.map (fun z => if keqD z.1 y = true then (z.1, o) else z) else ks ++ [(y, o)]
def keyFit (t : Bool) (y : D) : Bool := if t then (dkT y).isSome else (dk1 y).isSome
section
variable {K : PySem.W.Frag} {B : Bx} {G H : Hp}
theorem keyV {v : V} {y : D} (h : Dat K B G v y) {k : Key} (e : dk1 y = some k) : v = kV k := by
  cases h with
  | int i => cases e; rfl
  | str x => cases e; rfl
  | _ => cases e
theorem keyVs : ∀ {vs : List V} {ds : List D} {k : List Key}, Dats K B G vs ds → dkL ds = some k → vs = k.map kV
  | _, _, _, .nil, e => by cases e; rfl
  | _, _, k, .cons (d := d) (ds := ds) h t, e => by
    unfold dkL at e
    cases h1 : dk1 d with
    | none => rw [h1] at e; cases e
    | some a =>
      cases h2 : dkL ds with
      | none => rw [h1, h2] at e; cases e
      | some b =>
        rw [h1, h2] at e
        cases e
        rw [List.map_cons, keyV h h1, keyVs t h2]
theorem keyT {v : V} {y : D} (h : Dat K B G v y) {k : List Key} (e : dkT y = some k) : ∃ b, v = .ref b ∧ G b = some (.tup (k.map kV)) := by
  cases h with
  | tup h1 h2 => exact ⟨_, rfl, by rw [h1, keyVs h2 e]⟩
  | _ => cases e
theorem OwnK.any {k : Key} : ∀ {vs : List (Key × V)} {xs : List (D × OD)} {f : List Addr}, OwnK K B G H vs xs f → (vs.any fun kv => decide (kv.1 = k)) = xs.any fun z => keqD z.1 (embK k)
  | _, _, _, .nil => rfl
  | _, _, _, .consI (i := i) _ t => by rw [List.any_cons, List.any_cons, OwnK.any t, show (D.int i) = embK (.inl i) from rfl, keqD_K]
  | _, _, _, .consS (x := i) _ t => by rw [List.any_cons, List.any_cons, OwnK.any t, show (D.str i) = embK (.inr i) from rfl, keqD_K]
theorem OwnT.any {k : List Key} : ∀ {vs : List (List Key × V)} {xs : List (D × OD)} {f : List Addr}, OwnT K B G H vs xs f → (vs.any fun kv => decide (kv.1 = k)) = xs.any fun z => keqD z.1 (embT k)
  | _, _, _, .nil => rfl
  | _, _, _, .cons (k := i) _ t => by rw [List.any_cons, List.any_cons, OwnT.any t]; exact congrArg (· || _) (keqD_T i k).symm
theorem nodup_sub {f g f' g' : List Addr} (nd : (f ++ g).Nodup) (n1 : f'.Nodup) (n2 : g'.Nodup) (h1 : ∀ p ∈ f', p ∈ f) (h2 : ∀ p ∈ g', p ∈ g) : (f' ++ g').Nodup := by
  obtain ⟨_, _, h⟩ := List.nodup_append.mp nd
  exact List.nodup_append.mpr ⟨n1, n2, fun a ha b hb => h a (h1 a ha) b (h2 b hb)⟩
theorem OwnT.repl {k : List Key} {v : V} {d : D} {H2 : Hp} (hd : Dat K B G v d) : ∀ {vs : List (List Key × V)} {xs : List (D × OD)} {f : List Addr}, OwnT K B G H vs xs f → f.Nodup → Kept G H G H2 f → ∃ f', OwnT K B G H2 (vs.map fun kv => if kv.1 = k then (kv.1, v) else kv) (xs.map fun z => if keqD z.1 (embT k) = true then (z.1, .sh d) else z) f' ∧ f'.Nodup ∧ ∀ p ∈ f', p ∈ f
  | _, _, _, .nil, _, _ => ⟨[], .nil, List.nodup_nil, fun _ h => h⟩
  | _, _, _, .cons (k := i) (v := w) (o := o) (f := f) (g := g) h t, nd, kp => by
    obtain ⟨nf, ng, _⟩ := List.nodup_append.mp nd
    obtain ⟨g', a1, a2, a3⟩ := OwnT.repl hd t ng kp.r
    have e := keqD_T i k
    by_cases hk : i = k
    · refine ⟨[] ++ g', ?_, a2, fun p hp => List.mem_append_right _ (a3 p hp)⟩
      rw [List.map_cons, List.map_cons, if_pos hk, if_pos (show keqD (embT i) (embT k) = true from e.trans (decide_eq_true hk))]
      exact .cons (.sh hd) a1
    · refine ⟨f ++ g', ?_, nodup_sub nd nf a2 (fun _ h => h) a3, fun p hp => (List.mem_append.mp hp).elim (List.mem_append_left _) fun z => List.mem_append_right _ (a3 p z)⟩
      rw [List.map_cons, List.map_cons, if_neg hk, if_neg (show ¬ keqD (embT i) (embT k) = true by rw [e, decide_eq_false hk]; exact Bool.false_ne_true)]
      exact .cons (h.keep (Ex.refl G) kp.l) a1
theorem OwnK.snoc {k : Key} {v : V} {o : OD} {g : List Addr} (hd : Own K B G H v o g) : ∀ {vs : List (Key × V)} {xs : List (D × OD)} {f : List Addr}, OwnK K B G H vs xs f → OwnK K B G H (vs ++ [(k, v)]) (xs ++ [(embK k, o)]) (f ++ g)
  | _, _, _, .nil => by
    show OwnK K B G H [(k, v)] [(embK k, o)] g
    cases k with
    | inl i => exact (List.append_nil g) ▸ (OwnK.consI hd .nil)
    | inr i => exact (List.append_nil g) ▸ (OwnK.consS hd .nil)
  | _, _, _, .consI h t => by rw [List.append_assoc]; exact .consI h (OwnK.snoc hd t)
  | _, _, _, .consS h t => by rw [List.append_assoc]; exact .consS h (OwnK.snoc hd t)
theorem OwnT.snoc {k : List Key} {v : V} {o : OD} {g : List Addr} (hd : Own K B G H v o g) : ∀ {vs : List (List Key × V)} {xs : List (D × OD)} {f : List Addr}, OwnT K B G H vs xs f → OwnT K B G H (vs ++ [(k, v)]) (xs ++ [(embT k, o)]) (f ++ g)
  | _, _, _, .nil => by
    show OwnT K B G H [(k, v)] [(embT k, o)] g
    exact (List.append_nil g) ▸ (OwnT.cons hd .nil)
  | _, _, _, .cons h t => by rw [List.append_assoc]; exact .cons h (OwnT.snoc hd t)
theorem OwnK.len : ∀ {vs : List (Key × V)} {xs : List (D × OD)} {f : List Addr}, OwnK K B G H vs xs f → vs.length = xs.length
  | _, _, _, .nil => rfl
  | _, _, _, .consI _ t => by rw [List.length_cons, List.length_cons, OwnK.len t]
  | _, _, _, .consS _ t => by rw [List.length_cons, List.length_cons, OwnK.len t]
theorem OwnT.len : ∀ {vs : List (List Key × V)} {xs : List (D × OD)} {f : List Addr}, OwnT K B G H vs xs f → vs.length = xs.length
  | _, _, _, .nil => rfl
  | _, _, _, .cons _ t => by rw [List.length_cons, List.length_cons, OwnT.len t]
end
end DL
namespace DL
open PySem PySem.Spec PyProof.Rows L2 Evl
def lstL (ds : List D) (Q : List D → Prop) : Prop := match ds with
  | [.lst xs] => Q xs
  | [.tup xs] => Q xs
  | _ => False
section
variable {δ : DS} {Q : D → Prop} {QO : OD → Prop} {QL : List D → Prop} {QOL : List OD → Prop} {QB : Bool → Prop} {QR : Nat → List Nat → Prop} {W : DEnds} {r ra rb ri : DE} {rA : DA} {ro rx ry rz : OE} {rao : OA} {S : FO} {ρ : DR} {i j l n C : Nat} {d : D} {ds xs ys : List D} {os : List OD} {o s : OD} {a b : Int} {π : List Nat} {v : V} {oo : Option SD} {ks : List Str} {t : Bool} {kvs : List (D × OD)}
theorem z_oD : oD r δ QO = r δ fun d => QO (.sh d) := propext Iff.rfl
theorem z_oF : oF rA δ QO = rA δ fun ds => QO (.lst (ds.map .sh)) := propext Iff.rfl
theorem z_oNil : oNil δ QOL = QOL [] := propext Iff.rfl
theorem z_oCons : oCons ro rao δ QOL = ro δ fun x => rao δ fun xs => QOL (x :: xs) := propext Iff.rfl
theorem z_oLst : oLst rao δ QO = rao δ fun os => szD os.length (QO (.lst os)) := propext Iff.rfl
theorem z_oDic0 : oDic0 t δ QO = QO (.dic t []) := propext Iff.rfl
theorem z_dFz : dFz ro δ Q = ro δ fun o => Q o.toD := propext Iff.rfl
theorem z_setT : dSetT i ro W δ = ro δ fun o => ∀ v, W.nx (δ.set i (some (.ow v o))) := propext Iff.rfl
theorem z_retE : dRetE ro W δ = ro δ W.ro := propext Iff.rfl
theorem z_oCall : oCall S rA δ QO = rA δ fun ds => S ds QO := propext Iff.rfl
theorem z_oMeth : oMeth C S r rA δ QO = r δ fun d => isO C d ∧ rA δ fun ds => S (d :: ds) QO := propext Iff.rfl
theorem z_list : fList rA δ QL = rA δ fun ds => lstL ds QL := propext Iff.rfl
theorem z_listL : lstL [.lst xs] QL = QL xs := propext Iff.rfl
theorem z_listT : lstL [.tup xs] QL = QL xs := propext Iff.rfl
theorem z_par3 : dPar3 i j l (oCons rx (oCons ry (oCons rz oNil))) W δ = rx δ fun x => ry δ fun y => rz δ fun z => ∀ u v w, W.nx (((δ.set i (some (slotOf u x))).set j (some (slotOf v y))).set l (some (slotOf w z))) := propext Iff.rfl
theorem z_sOs : slotOf v (.sh d) = .sh d := rfl
theorem z_sOl : slotOf v (.lst os) = .ow v (.lst os) := rfl
theorem z_sOd : slotOf v (.dic t kvs) = .ow v (.dic t kvs) := rfl
theorem z_rVar : rVar i δ QR = ownO δ[i]? fun _ _ => QR i [] := propext Iff.rfl
theorem z_rIx : rIx ρ ri δ QR = ρ δ fun i π => ri δ fun d => lstAt δ i π fun xs => ixR d xs.length fun n => QR i (π ++ [n]) := propext Iff.rfl
theorem z_ixR {K : Nat → Prop} : ixR (.int a) n K = ((0 ≤ a ∧ a < n) ∧ K a.toNat) := propext Iff.rfl
theorem z_appR : dAppR ρ r W δ = ρ δ fun i π => lstAt δ i π fun xs => r δ fun d => xs.length < sizeLine ∧ W.nx (putS δ i π (.lst (xs ++ [.sh d]))) := propext Iff.rfl
theorem z_lstA0 {K : List OD → Prop} : lstAt (some (.ow v (.lst os)) :: δ) 0 [] K = K os := propext Iff.rfl
theorem z_lstAS {K : List OD → Prop} : lstAt (oo :: δ) (i + 1) π K = lstAt δ i π K := by unfold lstAt getS; rw [List.getElem?_cons_succ]
theorem z_dicA0 {K : Bool → List (D × OD) → Prop} : dicAt (some (.ow v (.dic t kvs)) :: δ) 0 [] K = K t kvs := propext Iff.rfl
theorem z_dicAS {K : Bool → List (D × OD) → Prop} : dicAt (oo :: δ) (i + 1) π K = dicAt δ i π K := by unfold dicAt getS; rw [List.getElem?_cons_succ]
theorem z_putS0 : putS (some (.ow v o) :: δ) 0 π s = some (.ow v (setO o π s)) :: δ := rfl
theorem z_putSS : putS (oo :: δ) (i + 1) π s = oo :: putS δ i π s := by
  unfold putS
  rw [List.getElem?_cons_succ]
  split
  · rename_i h
    simp only [h, List.set_cons_succ]
  · rfl
theorem z_setO0 : setO o [] s = s := by cases o <;> rfl
theorem z_lstA1 {K : List OD → Prop} {os2 : List OD} {x : OD} : lstAt (some (.ow v (.lst (.lst os :: os2))) :: δ) 0 [0] K = K os := propext Iff.rfl
theorem z_lstA2 {K : List OD → Prop} {os2 : List OD} {x : OD} : lstAt (some (.ow v (.lst (x :: .lst os :: os2))) :: δ) 0 [1] K = K os := propext Iff.rfl
theorem z_setO1 {os2 : List OD} {x : OD} : setO (.lst (x :: os2)) [0] s = .lst (s :: os2) := by
  show OD.lst ((x :: os2).set 0 (setO x [] s)) = _
  rw [z_setO0]; rfl
theorem z_setO2 {os2 : List OD} {x y : OD} : setO (.lst (x :: y :: os2)) [1] s = .lst (x :: s :: os2) := by
  show OD.lst ((x :: y :: os2).set 1 (setO y [] s)) = _
  rw [z_setO0]; rfl
theorem z_toDs : OD.toD (.sh d) = d := by rw [OD.toD]
theorem z_toDl : OD.toD (.lst os) = .lst (toDs os) := by rw [OD.toD]
theorem z_toDd : OD.toD (.dic t kvs) = .dic (toDk kvs) := by rw [OD.toD]
end
end DL
namespace DL
open PySem PySem.Spec PyProof.Rows L2 Evl
section
variable {P : Program} {w : World} {A : Around} {E : Value → Shared → Prop} {s : Shared}
/-- an empty set, as it is laid -/
abbrev sx (w : World) : Obj := { cls := .type "set", dict := none, data := .set #[] 0 (.fresh 0 0 (!w.params.followText "set-order")) }
/-- what set.__init__ does with a list of whole numbers -/
theorem set_init_lst {ax : Addr} {xs : Array Value} (zs : List Int) {R : Result → Shared → Prop} (hh : A.handled = none) (hx : s.heap.IsList ax xs) (hz : IntsAre xs.toList zs) (hb : zs.length + 1 < scanBound)
    (fin : ∀ (h' : Heap) (tk c : Nat), SetR w h' s.heap.objs.size (fun j => decide (j ∈ zs)) c → c ≤ zs.length → (∀ b o, s.heap.get? b = some o → h'.get? b = some o) → R (.ok (.ret .none)) { s with heap := h', toks := tk }) :
    codeAny (model P w) A (.call (.builtin "set.__init__") ⟨[.ref s.heap.objs.size, .ref ax], []⟩) R { s with heap := s.heap.push (sx w) } := by
  have at0 : (s.heap.push (sx w)).get? s.heap.objs.size = some (sx w) := Heap.get?_push_size _ rfl
  have ty0 : Shared.TypeIs { s with heap := s.heap.push (sx w) } (.ref s.heap.objs.size) "set" := ⟨_, at0, rfl⟩
  have hsz : xs.size = zs.length := by
    have := IntsAre.length hz
    rwa [Array.length_toList] at this
  refine codeAny_call_builtin F.called_set.init.plain F.entry_set_init (check_set_init_1 ty0 ?_)
  obtain ⟨ob, h1, h2, cap, h3⟩ := hx
  obtain ⟨k1, k2, k3, k4⟩ := ob
  simp only at h2 h3
  subst h2 h3
  have at1 : (s.heap.push (sx w)).get? ax = some { cls := .type "list", dict := k2, data := .seq xs cap, slots := k4 } := Heap.get?_push_of_some _ h1
  have isl : (s.heap.push (sx w)).IsList ax xs := ⟨_, at1, rfl, cap, rfl⟩
  have n1 := F.sub_list_set
  have n2 := F.sub_list_frozenset
  have n3 : (Value.type "list" == Value.type "dict") = false := by decide
  unfold Builtin.«set.__init__» noKeywords Builtin.Frozenset.updateFrom
  generalize eqI : pyIter = theIter
  wp_walk
  subst eqI
  refine wpAny_pyIter_list isl (wpAny_bind (wpAny_runValue ?_))
  have lt1 : ax < s.heap.objs.size := Heap.lt_size h1
  have szp : (s.heap.push (sx w)).objs.size = s.heap.objs.size + 1 := Heap.size_push ..
  have hh3 : A.in1.in1.handled = none := by simp [hh]
  have hv : ∀ (i : Nat) (v : Value), xs[i]? = some v → ∃ k t, zs[i]? = some k ∧ v = .int k t := fun i v e => by
    have li : i < zs.length := hsz ▸ (Array.getElem?_eq_some_iff.mp e).1
    obtain ⟨t, q⟩ := IntsAre.int_at hz i v (by rw [Array.getElem?_toList]; exact e)
    refine ⟨zs[i], t, List.getElem?_eq_getElem li, q.trans ?_⟩
    rw [List.getD_eq_getElem?_getD, List.getElem?_eq_getElem li]
    rfl
  have ne1 : ax ≠ (s.heap.push (sx w)).objs.size := by rw [szp]; exact Nat.ne_of_lt (Nat.lt_succ_of_lt lt1)
  have ne2 : s.heap.objs.size ∉ [(s.heap.push (sx w)).objs.size, ax] := fun z => by
    rw [szp] at z
    rcases List.mem_cons.mp z with z | z
    · exact absurd z (Nat.ne_of_lt (Nat.lt_succ_self _))
    · exact absurd (List.mem_singleton.mp z) (Nat.ne_of_gt lt1)
  refine set_update_ints ((Walks.list hh3 (s.heap.push (sx w)).objs.size ax ne1 xs).toS) s.heap.objs.size ne2 zs hsz hb hv (xs.size - 0) 0 _ (by omega) (Nat.zero_le _) ?st ?s0 fun s2 c mv hc hS => ?_
  case st => exact ⟨⟨_, Heap.get?_push_size _ rfl, rfl, rfl⟩, isl.push _⟩
  case s0 => exact ⟨0, Nat.le_refl 0, setR_new_at (Heap.get?_push_of_some _ at0)⟩
  obtain ⟨h2, g2, d2, t2, o2⟩ := s2
  have e1 : g2 = s.gens := mv.gens
  have e2 : d2 = s.drawn := mv.drawn
  have e3 : o2 = s.os := mv.os
  subst e1 e2 e3
  show wpAny _ _ _ _ _ _
  refine wpAny_pure ?_
  show wpAny _ _ (ret Value.none) _ _ _
  refine wpAny_pure (fin h2 t2 c hS (hsz ▸ hc) fun b o e => ?_)
  have lb : b < s.heap.objs.size := Heap.lt_size e
  refine mv.heap b o (fun z => ?_) (Heap.get?_push_of_some _ (Heap.get?_push_of_some _ e))
  rw [szp] at z
  rcases List.mem_cons.mp z with z | z
  · exact absurd z (Nat.ne_of_lt lb)
  · exact absurd (List.mem_singleton.mp z) (Nat.ne_of_lt (Nat.lt_succ_of_lt lb))
/-- set(xs), a list of whole numbers -/
theorem call_set_lst {ax : Addr} {xs : Array Value} (zs : List Int) {Q : Value → Shared → Prop} (hh : A.handled = none) (hx : s.heap.IsList ax xs) (hz : IntsAre xs.toList zs) (hb : zs.length + 1 < scanBound)
    (fin : ∀ (h' : Heap) (tk c : Nat), SetR w h' s.heap.objs.size (fun j => decide (j ∈ zs)) c → c ≤ zs.length → (∀ b o, s.heap.get? b = some o → h'.get? b = some o) → Q (.ref s.heap.objs.size) { s with heap := h', toks := tk }) :
    wpAny (model P w) A (call (.type "set") [.ref ax]) Q E s := by
  obtain ⟨cc, tl, mro⟩ := F.called_set.mro
  have f1 := F.called_set.made
  have f2 := F.called_set.sub
  have f3 := F.called_set.notType
  have f4 := F.called_set.canCreate
  have f5 := F.typeCall_set_1 (.ref ax)
  refine wpAny_call (codeAny_of_tree (show wpAny _ _ (callAny (.type "set") _) _ _ _ from wpAny_pure ⟨Code.quiet_builtin _ (by decide +kernel), codeAny_builtin F.entry_type_call ?_⟩))
  rw [Around.under_plain (weight_type_call_type "set" [.ref ax] []) rfl]
  repeat (any_goals (first | wp_step | assumption))
  refine codeAny_mono (code_set_led1 (.ref ax) (E := E) (Q₁ := fun x s1 => x = .ref s.heap.objs.size ∧ s1 = { s with heap := s.heap.push (sx w) }) ⟨rfl, rfl⟩) fun r s1 hr => ?_
  cases r with
  | error _ => exact hr
  | ok fl =>
    cases fl with
    | next => exact hr.elim
    | brk => exact hr.elim
    | cont => exact hr.elim
    | ret x =>
      obtain ⟨rfl, rfl⟩ := hr
      have ty0 : Shared.TypeIs { s with heap := s.heap.push (sx w) } (.ref s.heap.objs.size) "set" := ⟨_, Heap.get?_push_size _ rfl, rfl⟩
      have f6 := F.called_set.init.lookup
      have f7 := F.called_set.init.bind (.ref s.heap.objs.size)
      repeat (any_goals (first | wp_step | assumption))
      refine codeAny_mono (set_init_lst (P := P) (w := w) (s := s) (R := wants (fun r s2 => r = .none ∧ ∃ h' tk c, s2 = { s with heap := h', toks := tk } ∧ SetR w h' s.heap.objs.size (fun j => decide (j ∈ zs)) c ∧ c ≤ zs.length ∧ ∀ b o, s.heap.get? b = some o → h'.get? b = some o) E) zs (by simp [hh]) hx hz hb fun h' tk c a1 a2 a3 => ⟨rfl, h', tk, c, rfl, a1, a2, a3⟩) fun r2 s2 hr2 => ?_
      cases r2 with
      | error _ => exact hr2
      | ok fl2 =>
        cases fl2 with
        | next => exact hr2.elim
        | brk => exact hr2.elim
        | cont => exact hr2.elim
        | ret y =>
          obtain ⟨rfl, h', tk, c, rfl, a1, a2, a3⟩ := hr2
          repeat (any_goals (first | wp_step | assumption))
          exact fin _ _ _ a1 a2 a3
end
section
variable {X : Cx} {B : Bx} {e : Expr} {rA : DA} {pos : Pos}
theorem cr_setL (hc : X.calm = true) : CallR X (.type "set") (fun vs H Q => ∃ (l : Addr) (zs : List Int), vs = [.ref l] ∧ SqL X.K H l (zs.map V.int) ∧ zs.length ≤ 4000 ∧ ∀ a c, H a = none → c ≤ zs.length → Q (.ref a) (upd H a (SetO X.w a (fun j => decide (j ∈ zs)) c))) := by
  intro pins s σ H vs us Q I r h
  obtain ⟨l, zs, rfl, hq, hl, q⟩ := h
  rw [Vals.ref1 r]
  obtain ⟨its, rv, pl, _⟩ := I.list hq
  refine call_set_lst zs (I.ok.hd hc) pl.isList (by simpa using RZ.intsAre_vals rv) (by unfold scanBound; omega) fun h' tk c a1 a2 a3 => ?_
  have hn : H s.heap.objs.size = none := I.hok.fresh (Nat.le_refl _)
  exact ⟨.ref s.heap.objs.size, _, I.laid (a := s.heap.objs.size) (o := SetO X.w s.heap.objs.size (fun j => decide (j ∈ zs)) c) (h' := h') (t' := tk) a3 (Nat.le_refl _) (setO_new a1), rfl, q _ c hn a2⟩
def intsOf : List D → Option (List Int)
  | [] => some []
  | .int i :: r => (intsOf r).map (i :: ·)
  | _ :: _ => none
theorem intsOf_v {K : PySem.W.Frag} {G : Hp} : ∀ {vs : List V} {ds : List D} {ns : List Int}, Dats K B G vs ds → intsOf ds = some ns → vs = ns.map V.int
  | _, _, _, .nil, e => by cases e; rfl
  | _, _, ns, .cons h t, e => by
    cases h with
    | int b =>
      have e : (intsOf _).map (b :: ·) = some ns := e
      cases h2 : intsOf _ with
      | none => rw [h2] at e; cases e
      | some cs =>
        rw [h2] at e
        cases e
        rw [intsOf_v t h2]
        rfl
    | _ => cases e
theorem intsOf_map : ∀ ns : List Int, intsOf (ns.map .int) = some ns
  | [] => rfl
  | n :: ns => by rw [List.map_cons, intsOf, intsOf_map ns]; rfl
theorem ints_dats {K : PySem.W.Frag} {G : Hp} : ∀ ns : List Int, Dats K B G (ns.map V.int) (ns.map D.int)
  | [] => .nil
  | n :: ns => .cons (.int n) (ints_dats ns)
def setL (ds : List D) (Q : List D → Prop) : Prop := match ds with
  | [.lst xs] => match intsOf xs with
    | some zs => zs.length < 64 ∧ ∀ ns : List Int, ns.Pairwise (· < ·) → (∀ k : Int, k ∈ ns ↔ k ∈ zs) → Q (ns.map .int)
    | none => False
  | _ => False
def fSortSet (ra : DA) : DA := fun δ Q => ra δ fun ds => setL ds Q
theorem pf_sortSet {p p2 q : Pos} (hc : X.calm = true) (hg : Gl X "sorted") (hm : X.mg "sorted" = none) (hg2 : Gl X "set") (hm2 : X.mg "set" = none) (ha : PAD X B [e] rA) (hs : starEach [e] X.env = (false, eval e X.env) :: starEach [] X.env := by rfl) (hpl : (backTo q (starEach [] X.env)).any (·.1) = false := by rfl)
    (hs2 : starEach [.Call (.Name "set" p2) [e] [] q] X.env = (false, eval (.Call (.Name "set" p2) [e] [] q) X.env) :: starEach [] X.env := by rfl) (hpl2 : (backTo pos (starEach [] X.env)).any (·.1) = false := by rfl) :
    PF X B (.Call (.Name "sorted" p) [.Call (.Name "set" p2) [e] [] q] [] pos) (fSortSet rA) :=
  pe_mono (pe_callB (cr_sortedSet hc) hg hm (by decide +kernel) (pa_cons (pe_callTy (cr_setL hc) hg2 hm2 (by decide +kernel) ha (by decide) (by decide) hs hpl) pa_nil hs2) (by decide) (by decide) hs2 hpl2) fun σ H P q => by
  obtain ⟨H0, G, δ, Q, j, st, hr, k⟩ := q
  refine ⟨H0, G, δ, _, j, st, hr, fun ds vs G2 H2 q2 g2 h2 => ?_⟩
  cases h2 with
  | nil => exact q2.elim
  | cons h3 h4 =>
    cases h4 with
    | cons _ _ => cases h3 <;> exact q2.elim
    | nil =>
      cases h3 with
      | @lst a xs ys h5 h6 =>
        have q2 : (match intsOf ys with | some zs => zs.length < 64 ∧ ∀ ns : List Int, ns.Pairwise (· < ·) → (∀ k : Int, k ∈ ns ↔ k ∈ zs) → Q (ns.map .int) | none => False) := q2
        cases hi : intsOf ys with
        | none => rw [hi] at q2; exact q2.elim
        | some zs =>
          rw [hi] at q2
          have ev := intsOf_v h6 hi
          subst ev
          refine ⟨a, zs, rfl, sq_of (g2.j.ex _ _ h5), by omega, fun s c hs0 hc0 => ?_⟩
          have g3 : Gr X.K B G H G2 (upd H2 s (SetO X.w s (fun j => decide (j ∈ zs)) c)) := g2.trans (Gr.new0 g2.j hs0)
          refine ⟨s, _, c, rfl, upd_same, by omega, fun ns p hp1 hp2 _ hpn => ?_⟩
          exact pf_new k g3 hpn (ints_dats ns) (q2.2 ns hp1 fun k => (hp2 k).trans decide_eq_true_iff)
      | _ => exact q2.elim
theorem z_sortSet {δ : DS} {QL : List D → Prop} : fSortSet rA δ QL = rA δ fun ds => setL ds QL := propext Iff.rfl
theorem z_setL {zs : List Int} {QL : List D → Prop} : setL [.lst (zs.map .int)] QL = (zs.length < 64 ∧ ∀ ns : List Int, ns.Pairwise (· < ·) → (∀ k : Int, k ∈ ns ↔ k ∈ zs) → QL (ns.map .int)) := by
  unfold setL
  simp only [intsOf_map]
end
end DL
namespace DL
open PySem PySem.Spec PyProof.Rows L2 Evl
end DL
namespace DL
open PySem PySem.Spec PyProof.Rows L2 Evl
section
variable {K : PySem.W.Frag} {B : Bx} {H0 G H : Hp} {σ : L2.St} {δ : DS} {p : Addr} {o : HO}
theorem StOk.past (x : StOk K B H0 G H σ δ) (hp : H0 p ≠ none) : StOk K B H0 G (upd H p o) σ δ := by
  obtain ⟨F, y⟩ := x.ex
  refine ⟨F, y.len, fun i ov od h1 h2 => ?_, y.dj⟩
  have q := y.at_ i ov od h1 h2
  exact q.keep (Ex.refl G) fun b hb => ⟨upd_ne fun z => hp (by rw [← z]; exact (q.at b hb).2.2.2), rfl⟩
end
end DL
namespace DL
open PySem PySem.Spec PyProof.Rows L2 Evl
theorem room_u65 {k : Nat} {A : Around} (h : Room k A) : A.units + 65 < cLine := by have := h.un; omega
def oInP (neg : Bool) : O2 := fun x y Q => match y with
  | .lst ys => (plain x = true ∧ plain (.lst ys) = true) ∧ Q (.bl (if neg then !ys.any (fun z => eqb z x) else ys.any fun z => eqb z x))
  | _ => False
theorem any_py (x : D) : ∀ ys : List D, ((pyL ys).any fun z => PyData.eqv z x.py) = ys.any fun z => eqb z x
  | [] => by rw [pyL]; rfl
  | y :: ys => by rw [pyL, List.any_cons, List.any_cons, any_py x ys]; rfl
theorem op_inP {X : Cx} {B : Bx} (hu : X.A.units + 65 < cLine) : OpR X (compareOp .In) (rLift X.K B (oInP false)) := by
  intro pins s σ H x y v u P I rx ry h
  obtain ⟨G, dx, dy, Q, j, hx, hy, hq, k⟩ := h
  cases dy with
  | lst ys =>
    obtain ⟨⟨px, py⟩, q⟩ := hq
    have e1 := dat_dp j.ex hy (Bool.and_eq_true_iff.mp py).1
    have e2 := plain_shaped py
    rw [D.py] at e1 e2
    refine op_inD hu pins s σ H x y v u P I rx ry ⟨dx.py, pyL ys, dat_dp j.ex hx (Bool.and_eq_true_iff.mp px).1, e1, plain_shaped px, e2, ?_⟩
    rw [any_py]
    exact k _ _ G H q (Gr.refl j) (.bl _)
  | _ => exact hq.elim
section
variable {Q : D → Prop} {x d : D} {xs ys : List D}
theorem z_inP : oInP false x (.lst ys) Q = ((plain x = true ∧ plain (.lst ys) = true) ∧ Q (.bl (ys.any fun z => eqb z x))) := propext Iff.rfl
theorem z_ninP : oInP true x (.lst ys) Q = ((plain x = true ∧ plain (.lst ys) = true) ∧ Q (.bl (!ys.any fun z => eqb z x))) := propext Iff.rfl
end
end DL
namespace DL
open PySem PySem.Spec PyProof.Rows L2 Evl
def isNonD : D → Bool
  | .non => true
  | _ => false
def oIsN (n : Bool) : O2 := fun x y Q => match y with
  | .non => Q (.bl (if n then !isNonD x else isNonD x))
  | _ => False
theorem dat_non {K : PySem.W.Frag} {B : Bx} {G : Hp} {v : V} {d : D} (h : Dat K B G v d) : decide (v = .non) = isNonD d := by
  cases h <;> first | rfl | exact decide_eq_false (by intro z; cases z)
theorem op_isN_d {X : Cx} {B : Bx} : OpR X (compareOp .Is) (rLift X.K B (oIsN false)) := by
  intro pins s σ H x y v u P I rx ry q
  obtain ⟨G, dx, dy, Q, j, hx, hy, hq, k⟩ := q
  cases hy with
  | non =>
    refine op_isN pins s σ H _ _ v u P I rx ry ⟨rfl, ?_⟩
    rw [dat_non hx]
    exact k _ _ G H hq (Gr.refl j) (.bl _)
  | _ => exact hq.elim
theorem op_notN_d {X : Cx} {B : Bx} : OpR X (compareOp .IsNot) (rLift X.K B (oIsN true)) := by
  intro pins s σ H x y v u P I rx ry q
  obtain ⟨G, dx, dy, Q, j, hx, hy, hq, k⟩ := q
  cases hy with
  | non =>
    refine op_notN pins s σ H _ _ v u P I rx ry ⟨rfl, ?_⟩
    rw [dat_non hx]
    exact k _ _ G H hq (Gr.refl j) (.bl _)
  | _ => exact hq.elim
section
variable {Q : D → Prop} {x : D} {xs : List D} {fs : List D} {C : Nat}
theorem z_isN : oIsN false x .non Q = Q (.bl (isNonD x)) := propext Iff.rfl
theorem z_notN : oIsN true x .non Q = Q (.bl (!isNonD x)) := propext Iff.rfl
theorem z_nnN : isNonD .non = true := rfl
theorem z_nnT : isNonD (.tup xs) = false := rfl
theorem z_nnL : isNonD (.lst xs) = false := rfl
theorem z_nnO : isNonD (.obj C fs) = false := rfl
end
end DL
namespace DL
open PySem PySem.Spec PyProof.Rows L2 Evl
def oPow : O2 := oIc CPow fun i j => .int (i ^ j.toNat)
theorem op_pow_d {X : Cx} {B : Bx} : OpR X (binaryOp .Pow) (rLift X.K B oPow) := op_intc op_pow fun _ _ _ => .int _
theorem z_pow {a b : Int} {Q : D → Prop} : oPow (.int a) (.int b) Q = (CPow a b ∧ Q (.int (a ^ b.toNat))) := propext Iff.rfl
end DL
namespace DL
open PySem PySem.Spec PyProof.Rows L2 Evl
theorem zGd0 : (type_of% @z_pow) ∧ (type_of% @z_isN) ∧ (type_of% @z_notN) ∧ (type_of% @z_inP) ∧ (type_of% @z_ninP) ∧ (type_of% @z_var0) ∧ (type_of% @z_varS) ∧ (type_of% @z_c) ∧ (type_of% @z_nil) ∧ (type_of% @z_cons) ∧ (type_of% @z_tup) ∧ (type_of% @z_lst) ∧ (type_of% @z_sz) ∧ (type_of% @z_f) ∧ (type_of% @z_op) ∧ (type_of% @z_un) ∧ (type_of% @z_tBl) ∧ (type_of% @z_bl) ∧ (type_of% @z_tNt) ∧ (type_of% @z_notT) ∧ (type_of% @z_notF) ∧ (type_of% @z_dNt) ∧ (type_of% @z_call) ∧ (type_of% @z_next) ∧ (type_of% @z_seqS) ∧ (type_of% @z_ret) ∧ (type_of% @z_gN) ∧ (type_of% @z_gsNil) ∧ (type_of% @z_gsCons) ∧ (type_of% @z_headL) ∧ (type_of% @z_nilL) ∧ (type_of% @z_gT) ∧ (type_of% @z_tupD) ∧ (type_of% @z_asg) ∧ (type_of% @z_set) ∧ (type_of% @z_frz) := ⟨@z_pow, @z_isN, @z_notN, @z_inP, @z_ninP, @z_var0, @z_varS, @z_c, @z_nil, @z_cons, @z_tup, @z_lst, @z_sz, @z_f, @z_op, @z_un, @z_tBl, @z_bl, @z_tNt, @z_notT, @z_notF, @z_dNt, @z_call, @z_next, @z_seqS, @z_ret, @z_gN, @z_gsNil, @z_gsCons, @z_headL, @z_nilL, @z_gT, @z_tupD, @z_asg, @z_set, @z_frz⟩
theorem zGd1 : (type_of% @z_for) ∧ (type_of% @z_lc) ∧ (type_of% @z_yes) ∧ (type_of% @z_sl) ∧ (type_of% @z_noP) ∧ (type_of% @z_aP) ∧ (type_of% @z_intO) ∧ (type_of% @z_ifS) ∧ (type_of% @iteS_t) ∧ (type_of% @iteS_f) ∧ (type_of% @z_ifE) ∧ (type_of% @iteE_t) ∧ (type_of% @iteE_f) ∧ (type_of% @z_an) ∧ (type_of% @z_or) ∧ (type_of% @anE_t) ∧ (type_of% @anE_f) ∧ (type_of% @orE_t) ∧ (type_of% @orE_f) ∧ (type_of% @z_tan) ∧ (type_of% @z_tor) ∧ (type_of% @anT_t) ∧ (type_of% @anT_f) ∧ (type_of% @orT_t) ∧ (type_of% @orT_f) ∧ (type_of% @z_seq) ∧ (type_of% @z_seqL) ∧ (type_of% @z_seqT) ∧ (type_of% @z_seqSt) ∧ (type_of% @z_neg) ∧ (type_of% @z_sub) ∧ (type_of% @z_gt) ∧ (type_of% @z_ge) ∧ (type_of% @z_addI) ∧ (type_of% @z_addS) ∧ (type_of% @z_addL) ∧ (type_of% @z_addT) ∧ (type_of% @z_mulI) ∧ (type_of% @z_mulS) ∧ (type_of% @z_mulL) ∧ (type_of% @z_atD) ∧ (type_of% @z_atC) ∧ (type_of% @z_ixS) ∧ (type_of% @z_ixL0) ∧ (type_of% @z_ixL1) ∧ (type_of% @z_ixL2) ∧ (type_of% @z_ixL3) ∧ (type_of% @z_ixL4) ∧ (type_of% @z_ixL5) ∧ (type_of% @z_ixL6) := ⟨@z_for, @z_lc, @z_yes, @z_sl, @z_noP, @z_aP, @z_intO, @z_ifS, @iteS_t, @iteS_f, @z_ifE, @iteE_t, @iteE_f, @z_an, @z_or, @anE_t, @anE_f, @orE_t, @orE_f, @z_tan, @z_tor, @anT_t, @anT_f, @orT_t, @orT_f, @z_seq, @z_seqL, @z_seqT, @z_seqSt, @z_neg, @z_sub, @z_gt, @z_ge, @z_addI, @z_addS, @z_addL, @z_addT, @z_mulI, @z_mulS, @z_mulL, @z_atD, @z_atC, @z_ixS, @z_ixL0, @z_ixL1, @z_ixL2, @z_ixL3, @z_ixL4, @z_ixL5, @z_ixL6⟩
theorem zGd2 : (type_of% @z_ixL7) ∧ (type_of% @z_ixT0) ∧ (type_of% @z_ixT1) ∧ (type_of% @z_ixT2) ∧ (type_of% @z_ixT3) ∧ (type_of% @z_ixT4) ∧ (type_of% @z_ixT5) ∧ (type_of% @z_ixT6) ∧ (type_of% @z_ixT7) ∧ (type_of% @z_eqS) ∧ (type_of% @z_eqI) ∧ (type_of% @z_eqB) ∧ (type_of% @z_eqL) ∧ (type_of% @z_eqT) ∧ (type_of% @z_neS) ∧ (type_of% @z_neI) ∧ (type_of% @z_neB) ∧ (type_of% @z_neL) ∧ (type_of% @z_neT) ∧ (type_of% @z_inL) ∧ (type_of% @z_inT) ∧ (type_of% @z_ninL) ∧ (type_of% @z_ninT) ∧ (type_of% @z_slL) ∧ (type_of% @z_slT) ∧ (type_of% @z_slS) ∧ (type_of% @z_lenL) ∧ (type_of% @z_lenT) ∧ (type_of% @z_lenS) ∧ (type_of% @z_intI) ∧ (type_of% @z_intB) ∧ (type_of% @z_tupL) ∧ (type_of% @z_tupT) ∧ (type_of% @z_r1) ∧ (type_of% @z_r1D) ∧ (type_of% @z_fld) ∧ (type_of% @z_fldD) ∧ (type_of% @z_isO) ∧ (type_of% @z_make) := ⟨@z_ixL7, @z_ixT0, @z_ixT1, @z_ixT2, @z_ixT3, @z_ixT4, @z_ixT5, @z_ixT6, @z_ixT7, @z_eqS, @z_eqI, @z_eqB, @z_eqL, @z_eqT, @z_neS, @z_neI, @z_neB, @z_neL, @z_neT, @z_inL, @z_inT, @z_ninL, @z_ninT, @z_slL, @z_slT, @z_slS, @z_lenL, @z_lenT, @z_lenS, @z_intI, @z_intB, @z_tupL, @z_tupT, @z_r1, @z_r1D, @z_fld, @z_fldD, @z_isO, @z_make⟩
theorem zGd3 : (type_of% @z_inK) ∧ (type_of% @z_ninK) ∧ (type_of% @z_oD) ∧ (type_of% @z_oF) ∧ (type_of% @z_oNil) ∧ (type_of% @z_oCons) ∧ (type_of% @z_oLst) ∧ (type_of% @z_oDic0) ∧ (type_of% @z_dFz) ∧ (type_of% @z_setT) ∧ (type_of% @z_retE) ∧ (type_of% @z_oCall) ∧ (type_of% @z_oMeth) ∧ (type_of% @z_list) ∧ (type_of% @z_listL) ∧ (type_of% @z_listT) ∧ (type_of% @z_par3) ∧ (type_of% @z_sOs) ∧ (type_of% @z_sOl) ∧ (type_of% @z_sOd) ∧ (type_of% @z_rVar) ∧ (type_of% @z_rIx) ∧ (type_of% @z_ixR) ∧ (type_of% @z_appR) ∧ (type_of% @z_lstA0) ∧ (type_of% @z_lstAS) ∧ (type_of% @z_dicA0) ∧ (type_of% @z_dicAS) ∧ (type_of% @z_putS0) ∧ (type_of% @z_putSS) ∧ (type_of% @z_setO0) ∧ (type_of% @z_setO1) ∧ (type_of% @z_setO2) ∧ (type_of% @z_lstA1) := ⟨@z_inK, @z_ninK, @z_oD, @z_oF, @z_oNil, @z_oCons, @z_oLst, @z_oDic0, @z_dFz, @z_setT, @z_retE, @z_oCall, @z_oMeth, @z_list, @z_listL, @z_listT, @z_par3, @z_sOs, @z_sOl, @z_sOd, @z_rVar, @z_rIx, @z_ixR, @z_appR, @z_lstA0, @z_lstAS, @z_dicA0, @z_dicAS, @z_putS0, @z_putSS, @z_setO0, @z_setO1, @z_setO2, @z_lstA1⟩
theorem zGd4 : (type_of% @z_lstA2) ∧ (type_of% @z_tBor) ∧ (type_of% @z_dBor) ∧ (type_of% @z_scN) ∧ (type_of% @z_scB) ∧ (type_of% @z_scI) ∧ (type_of% @z_scS) ∧ (type_of% @z_ownO0) ∧ (type_of% @z_ownOS) ∧ (type_of% @z_sortSet) ∧ (type_of% @z_setL) := ⟨@z_lstA2, @z_tBor, @z_dBor, @z_scN, @z_scB, @z_scI, @z_scS, @z_ownO0, @z_ownOS, @z_sortSet, @z_setL⟩
theorem zGp0 : (type_of% @z_nnN) ∧ (type_of% @z_nnT) ∧ (type_of% @z_nnL) ∧ (type_of% @z_nnO) ∧ (type_of% @atI0) ∧ (type_of% @atI1) ∧ (type_of% @atI2) ∧ (type_of% @atI3) ∧ (type_of% @atI4) ∧ (type_of% @atI5) ∧ (type_of% @atI6) ∧ (type_of% @atI7) ∧ (type_of% @z_sz) ∧ (type_of% @z_notT) ∧ (type_of% @z_notF) ∧ (type_of% @z_tupD) ∧ (type_of% @iteS_t) ∧ (type_of% @iteS_f) ∧ (type_of% @iteE_t) ∧ (type_of% @iteE_f) ∧ (type_of% @anE_t) ∧ (type_of% @anE_f) ∧ (type_of% @orE_t) ∧ (type_of% @orE_f) ∧ (type_of% @anT_t) ∧ (type_of% @anT_f) ∧ (type_of% @orT_t) ∧ (type_of% @orT_f) ∧ (type_of% @z_atD) ∧ (type_of% @z_ixL) ∧ (type_of% @z_ixT) ∧ (type_of% @z_toDs) ∧ (type_of% @z_toDl) ∧ (type_of% @z_toDd) := ⟨@z_nnN, @z_nnT, @z_nnL, @z_nnO, @atI0, @atI1, @atI2, @atI3, @atI4, @atI5, @atI6, @atI7, @z_sz, @z_notT, @z_notF, @z_tupD, @iteS_t, @iteS_f, @iteE_t, @iteE_f, @anE_t, @anE_f, @orE_t, @orE_f, @anT_t, @anT_f, @orT_t, @orT_f, @z_atD, @z_ixL, @z_ixT, @z_toDs, @z_toDl, @z_toDd⟩
end DL
namespace L2
open PySem PySem.Spec PyProof.Rows
section
variable {X : Cx} {pins : List (Addr × Obj)} {σ : St} {H H' : Hp} {s : Shared} {E : Value → Shared → Prop} {a : Addr} {y v : V} {u r : Value} {Q : Unit → Shared → Prop}
/-- what may stand at a dict that was just made -/
def Dc0 (o : HO) : Prop := o = .dK [] ∨ o = .dT []
theorem Dc0.ok {P : Program} {w : World} {H : Hp} {o : HO} (c : Dc0 o) (h : Heap) (hb : sysModules < h.objs.size) : ObjOk P w H (h.push { cls := .type "dict", data := .dict #[] }) h.objs.size o := by
  rcases c with rfl | rfl
  · exact dk_empty h hb
  · exact dt_empty h hb
end
end L2
namespace DL
open PySem PySem.Spec PyProof.Rows L2 Evl
section
variable {K : PySem.W.Frag} {B : Bx} {G : Hp}
theorem DatT.any {k : List Key} : ∀ {vs : List (List Key × V)} {xs : List (D × D)}, DatT K B G vs xs → (vs.any fun kv => decide (kv.1 = k)) = xs.any fun z => keqD z.1 (embT k)
  | _, _, .nil => rfl
  | _, _, .cons (k := i) _ t => by
    rw [List.any_cons, List.any_cons, DatT.any t]
    show (decide (i = k) || _) = (keqD (embT i) (embT k) || _)
    rw [keqD_T]
theorem DatT.snoc {k : List Key} {v : V} {d : D} (h : Dat K B G v d) : ∀ {vs : List (List Key × V)} {xs : List (D × D)}, DatT K B G vs xs → DatT K B G (vs ++ [(k, v)]) (xs ++ [(embT k, d)])
  | _, _, .nil => .cons h .nil
  | _, _, .cons a t => .cons a (DatT.snoc h t)
end
end DL
namespace DL
open PySem PySem.Spec PyProof.Rows L2 Evl
section
variable {prog : Program} {w : World} {A : Around} {E : Value → Shared → Prop} {s : Shared}
abbrev XT := List (List Key × Addr × Value)
end
end DL
namespace DL
open PySem PySem.Spec PyProof.Rows L2 Evl
def nodupK : List (D × D) → Bool
  | [] => true
  | (k, _) :: r => keqD k k && !(r.any fun z => keqD k z.1) && nodupK r
mutual
def okG : D → Bool
  | .dic ks => nodupK ks && okGk ks
  | .lst xs => okGs xs
  | .tup xs => okGs xs
  | .obj _ _ => false
  | .bag => false
  | .ktup _ => false
  | _ => true
def okGs : List D → Bool
  | [] => true
  | x :: xs => okG x && okGs xs
def okGk : List (D × D) → Bool
  | [] => true
  | (k, v) :: r => okG k && okG v && okGk r
end
section
variable {K : PySem.W.Frag} {B : Bx} {G : Hp}
mutual
/-- what a value tells is one thing -/
theorem Dat.fn : ∀ {v : V} {d e : D}, Dat K B G v d → Dat K B G v e → okG d = true → okG e = true → d = e
  | _, _, _, .non, h, _, _ => by cases h; rfl
  | _, _, _, .bl b, h, _, _ => by cases h; rfl
  | _, _, _, .int i, h, _, _ => by cases h; rfl
  | _, _, _, .str x, h, _, _ => by cases h; rfl
  | _, _, _, .lst a t, h, o, o' => by
    cases h with
    | lst a' t' =>
      rw [a] at a'
      injection a' with a'; injection a' with a'
      subst a'
      rw [Dats.fn t t' (by simpa [okG] using o) (by simpa [okG] using o')]
    | tup a' t' => rw [a] at a'; injection a' with a'; cases a'
    | dK a' t' => rw [a] at a'; injection a' with a'; cases a'
    | dT a' t' => rw [a] at a'; injection a' with a'; cases a'
    | ktup _ _ => simp [okG] at o'
    | bag => simp [okG] at o'
    | obj _ _ _ => simp [okG] at o'
  | _, _, _, .tup a t, h, o, o' => by
    cases h with
    | tup a' t' =>
      rw [a] at a'
      injection a' with a'; injection a' with a'
      subst a'
      rw [Dats.fn t t' (by simpa [okG] using o) (by simpa [okG] using o')]
    | lst a' t' => rw [a] at a'; injection a' with a'; cases a'
    | dK a' t' => rw [a] at a'; injection a' with a'; cases a'
    | dT a' t' => rw [a] at a'; injection a' with a'; cases a'
    | ktup _ _ => simp [okG] at o'
    | bag => simp [okG] at o'
    | obj _ _ _ => simp [okG] at o'
  | _, _, _, .dK a t, h, o, o' => by
    have ho : okGk _ = true := (Bool.and_eq_true_iff.mp (by simpa [okG] using o)).2
    have ho' := o'
    cases h with
    | dK a' t' =>
      rw [a] at a'
      injection a' with a'; injection a' with _ a'; injection a' with a'
      subst a'
      rw [DatK.fn t t' ho (Bool.and_eq_true_iff.mp (by simpa [okG] using o')).2]
    | lst a' t' => rw [a] at a'; injection a' with a'; cases a'
    | tup a' t' => rw [a] at a'; injection a' with a'; cases a'
    | dT a' t' => rw [a] at a'; injection a' with a'; injection a' with _ a'; cases a'
    | ktup _ _ => simp [okG] at o'
    | bag => simp [okG] at o'
    | obj _ _ _ => simp [okG] at o'
  | _, _, _, .dT a t, h, o, o' => by
    have ho : okGk _ = true := (Bool.and_eq_true_iff.mp (by simpa [okG] using o)).2
    cases h with
    | dT a' t' =>
      rw [a] at a'
      injection a' with a'; injection a' with _ a'; injection a' with a'
      subst a'
      rw [DatT.fn t t' ho (Bool.and_eq_true_iff.mp (by simpa [okG] using o')).2]
    | lst a' t' => rw [a] at a'; injection a' with a'; cases a'
    | tup a' t' => rw [a] at a'; injection a' with a'; cases a'
    | dK a' t' => rw [a] at a'; injection a' with a'; injection a' with _ a'; cases a'
    | ktup _ _ => simp [okG] at o'
    | bag => simp [okG] at o'
    | obj _ _ _ => simp [okG] at o'
  | _, _, _, .ktup _ _, _, o, _ => by simp [okG] at o
  | _, _, _, .bag, _, o, _ => by simp [okG] at o
  | _, _, _, .obj _ _ _, _, o, _ => by simp [okG] at o
theorem Dats.fn : ∀ {v : List V} {d e : List D}, Dats K B G v d → Dats K B G v e → okGs d = true → okGs e = true → d = e
  | _, _, _, .nil, h, _, _ => by cases h; rfl
  | _, _, _, .cons a t, h, o, o' => by
    cases h with
    | cons a' t' =>
      have h1 := Bool.and_eq_true_iff.mp (by simpa only [okGs] using o)
      have h2 := Bool.and_eq_true_iff.mp (by simpa only [okGs] using o')
      rw [Dat.fn a a' h1.1 h2.1, Dats.fn t t' h1.2 h2.2]
theorem DatK.fn : ∀ {v : List (Key × V)} {d e : List (D × D)}, DatK K B G v d → DatK K B G v e → okGk d = true → okGk e = true → d = e
  | _, _, _, .nil, h, _, _ => by cases h; rfl
  | _, _, _, .consI a t, h, o, o' => by
    cases h with
    | consI a' t' =>
      have h1 := Bool.and_eq_true_iff.mp (by simpa only [okGk] using o)
      have h2 := Bool.and_eq_true_iff.mp (by simpa only [okGk] using o')
      rw [Dat.fn a a' (Bool.and_eq_true_iff.mp h1.1).2 (Bool.and_eq_true_iff.mp h2.1).2, DatK.fn t t' h1.2 h2.2]
  | _, _, _, .consS a t, h, o, o' => by
    cases h with
    | consS a' t' =>
      have h1 := Bool.and_eq_true_iff.mp (by simpa only [okGk] using o)
      have h2 := Bool.and_eq_true_iff.mp (by simpa only [okGk] using o')
      rw [Dat.fn a a' (Bool.and_eq_true_iff.mp h1.1).2 (Bool.and_eq_true_iff.mp h2.1).2, DatK.fn t t' h1.2 h2.2]
theorem DatT.fn : ∀ {v : List (List Key × V)} {d e : List (D × D)}, DatT K B G v d → DatT K B G v e → okGk d = true → okGk e = true → d = e
  | _, _, _, .nil, h, _, _ => by cases h; rfl
  | _, _, _, .cons a t, h, o, o' => by
    cases h with
    | cons a' t' =>
      have h1 := Bool.and_eq_true_iff.mp (by simpa only [okGk] using o)
      have h2 := Bool.and_eq_true_iff.mp (by simpa only [okGk] using o')
      rw [Dat.fn a a' (Bool.and_eq_true_iff.mp h1.1).2 (Bool.and_eq_true_iff.mp h2.1).2, DatT.fn t t' h1.2 h2.2]
end
end
section
variable {X : Cx} {B : Bx} {pins : List (Addr × Obj)} {σ : L2.St} {G H : Hp} {s : Shared}
theorem dk1_T (k : List Key) : dk1 (embT k) = none := rfl
end
end DL
namespace DL
open PySem PySem.Spec PyProof.Rows L2 Evl
section
variable {X : Cx} {B : Bx} {pins : List (Addr × Obj)} {σ : L2.St} {H G : Hp} {s : Shared} {e o i : Expr} {r ry rx : DE} {pos : Pos}
theorem DatK.len {K : PySem.W.Frag} : ∀ {kvs : List (Key × V)} {ks : List (D × D)}, DatK K B G kvs ks → kvs.length = ks.length
  | _, _, .nil => rfl
  | _, _, .consI _ t => by rw [List.length_cons, List.length_cons, DatK.len t]
  | _, _, .consS _ t => by rw [List.length_cons, List.length_cons, DatK.len t]
theorem DatT.len {K : PySem.W.Frag} : ∀ {kvs : List (List Key × V)} {ks : List (D × D)}, DatT K B G kvs ks → kvs.length = ks.length
  | _, _, .nil => rfl
  | _, _, .cons _ t => by rw [List.length_cons, List.length_cons, DatT.len t]
theorem keq_KT (a : Key) (k : List Key) : keqD (embK a) (embT k) = false := by unfold keqD; rw [dk1_emb, dk1_T]; cases a <;> rfl
theorem dkT_K (a : Key) : dkT (embK a) = none := by cases a <;> rfl
theorem keq_TK (a : Key) (k : List Key) : keqD (embT k) (embK a) = false := by unfold keqD; rw [dk1_emb, dk1_T, dkT_K, dkT_emb]
end
section
variable {K : PySem.W.Frag} {B : Bx} {G : Hp} {d : Addr} {o : Obj}
theorem DatK.at : ∀ {kvs : List (Key × V)} {ks : List (D × D)}, DatK K B G kvs ks → ∀ {i : Nat} {k : Key} {v : V}, kvs[i]? = some (k, v) → ∃ x, ks[i]? = some (embK k, x) ∧ Dat K B G v x
  | _, _, .nil, _, _, _, h => nomatch h
  | _, _, .consI h1 _, 0, _, _, h => by cases h; exact ⟨_, rfl, h1⟩
  | _, _, .consS h1 _, 0, _, _, h => by cases h; exact ⟨_, rfl, h1⟩
  | _, _, .consI _ t, i + 1, _, _, h => DatK.at t (i := i) h
  | _, _, .consS _ t, i + 1, _, _, h => DatK.at t (i := i) h
theorem DatT.at : ∀ {kvs : List (List Key × V)} {ks : List (D × D)}, DatT K B G kvs ks → ∀ {i : Nat} {k : List Key} {v : V}, kvs[i]? = some (k, v) → ∃ x, ks[i]? = some (embT k, x) ∧ Dat K B G v x
  | _, _, .nil, _, _, _, h => nomatch h
  | _, _, .cons h1 _, 0, _, _, h => by cases h; exact ⟨_, rfl, h1⟩
  | _, _, .cons _ t, i + 1, _, _, h => DatT.at t (i := i) h
theorem dat_kV (k : Key) : Dat K B G (kV k) (embK k) := by cases k; exact .int _; exact .str _
theorem dats_kV : ∀ k : List Key, Dats K B G (k.map kV) (k.map embK)
  | [] => .nil
  | k :: ks => .cons (dat_kV k) (dats_kV ks)
/-- a tuple of numbers and texts that stands there is, or becomes, known -/
theorem Gr.tupK {H : Hp} {q : Addr} {k : List Key} (j : Jn K B G H) (h : H q = some (.tup (k.map kV))) : ∃ G2, Gr K B G H G2 H ∧ Dat K B G2 (.ref q) (embT k) := by
  cases g : G q with
  | none => exact ⟨_, Gr.learn j h g, .tup upd_same (dats_kV k)⟩
  | some o =>
    have := j.ex _ _ g
    rw [h] at this
    cases this
    exact ⟨G, Gr.refl j, .tup g (dats_kV k)⟩
end
end DL
namespace DL
open PySem PySem.Spec PyProof.Rows L2 Evl PySem.W
def dleD : D → D → Bool := dataLe false D.py
def sortD (xs : List D) : List D := xs.mergeSort dleD
structure SrtOk (xs : List D) : Prop where
  pl : ∀ d ∈ xs, plain d = true
  al : AllAlike (xs.map D.py)
  so : Sortable (xs.map D.py)
section
variable {prog : Program} {w : World} {A : Around} {E : Value → Shared → Prop} {s : Shared} {vs : List Value} {bs : List D} {R : Value → D → Prop}
theorem sorted_col {x : Value} {Q : Value → Shared → Prop} (hc : ∀ P : List Value → Shared → Prop, (∀ h' tk, (∀ b o, s.heap.get? b = some o → h'.get? b = some o) → P vs { s with heap := h', toks := tk }) → wpAny (model prog w) A.in1 (collect x) P E s)
    (e : EachIs R vs bs) (er : EachIs (fun v b => ∃ as, Reads s.heap v b.py as) vs bs) (hal : AllAlike (bs.map D.py)) (hk : Sortable (bs.map D.py)) (hL : bs.length ≤ sizeLine)
    (hu : ∀ b, b ∈ bs → A.units + 2 + b.py.depth < cLine) (h : ∀ (out : List Value) (h1 h' : Heap) (tk : Nat) (p : Addr) (n : Nat), out.length = bs.length → EachIs R out (sortD bs) → (∀ b o, s.heap.get? b = some o → h1.get? b = some o) → (∀ b o, h1.get? b = some o → h'.get? b = some o) → h1.objs.size ≤ p → h'.get? p = some (seqObj "list" (List.toArray out) n) → Q (.ref p) { s with heap := h', toks := tk }) :
    wpAny (model prog w) A (call (.builtin "sorted") [x]) Q E s := by
  refine call_function_entry_kw kind_sorted plain_sorted entry_sorted (args_sorted1 _) ?_
  unfold Builtin.«sorted»
  refine wpAny_bind (m := checkCount "sorted" 1 1 _) (wpAny_pure ?_)
  refine wpAny_bind (hc _ fun h1 tk hk1 => ?_)
  have hL' : vs.length ≤ sizeLine := by rw [e.length]; exact hL
  refine wpAny_bind (wpAny_newList ?_ hL')
  have ho : (h1.push (seqObj "list" vs.toArray 0)).get? h1.objs.size = some (seqObj "list" vs.toArray 0) := Heap.get?_push_size _ rfl
  show wpAny _ _ _ _ _ { s with heap := h1.push (seqObj "list" vs.toArray 0), toks := tk }
  have k2 : ∀ b o, s.heap.get? b = some o → b ≠ h1.objs.size ∧ (h1.push (seqObj "list" vs.toArray 0)).get? b = some o := fun b o q =>
    ⟨Nat.ne_of_lt (Heap.lt_size (hk1 b o q)), Heap.get?_push_of_some _ (hk1 b o q)⟩
  have er' : EachIs (fun v b => ∃ as, Reads (sortingHeap (h1.push (seqObj "list" vs.toArray 0)) h1.objs.size vs) v (D.py b) as) vs bs := er.mono fun _ _ ⟨as, r⟩ => ⟨as, PyProof.Rows.Reads.keeps (fun b o q => sortingHeap_old (k2 b o q).1 (k2 b o q).2) r⟩
  refine wpAny_bind (wpAny_holding (wpAny_call_entry_kw slot_list_sort ⟨_, ho, rfl⟩ entry_list_sort ?body (args_list_sort _)))
  case body =>
    refine list_sort_vals (s := { s with heap := h1.push (seqObj "list" vs.toArray 0), toks := tk }) ho (SortsAt.data (s := { s with heap := sortingHeap (h1.push (seqObj "list" vs.toArray 0)) h1.objs.size vs, toks := tk }) (each_map (R := fun v d => ∃ as, Reads (sortingHeap (h1.push (seqObj "list" vs.toArray 0)) h1.objs.size vs) v d as) D.py er') hal hk (bound_map hu)) hL' ?_
    refine ⟨_, rfl, wpAny_pure ⟨_, rfl, ?_⟩⟩
    obtain ⟨n, hn⟩ := sortedHeap_at (vs := vs) (out := (sortVals (dataKind (sortingHeap (h1.push (seqObj "list" vs.toArray 0)) h1.objs.size vs) (bs.map D.py)) false vs vs).toArray) ho
    refine h _ h1 _ _ _ n ?_ (sortVals_data false e er' hal) hk1 (fun b o q => ?_) (Nat.le_refl _) hn
    · rw [sortVals_length false rfl]; exact e.length
    · rw [sortedHeap_old (Nat.ne_of_lt (Heap.lt_size q)) (by rw [size_push']; exact Nat.lt_succ_of_lt (Heap.lt_size q))]
      exact Heap.get?_push_of_some _ q
end
section
variable {K : PySem.W.Frag} {B : Bx} {G H : Hp}
def srcD (d : D) : Option (List D) := match d with
  | .lst xs => some xs
  | .dic ks => some (ks.map (·.1))
  | _ => none
/-- tuples of numbers and texts that stand there become known -/
theorem Gr.tupKs (j : Jn K B G H) : ∀ {qs : List Addr} {kk : List (List Key)}, qs.length = kk.length → (∀ (i : Nat) (q : Addr) (k : List Key), qs[i]? = some q → kk[i]? = some k → H q = some (.tup (k.map kV))) → ∃ G2, Gr K B G H G2 H ∧ Dats K B G2 (qs.map V.ref) (kk.map embT)
  | [], [], _, _ => ⟨G, Gr.refl j, .nil⟩
  | q :: qs, k :: kk, hl, h => by
    obtain ⟨G2, g2, d2⟩ := Gr.tupKs j (qs := qs) (kk := kk) (by simpa using hl) fun i q' k' h1 h2 => h (i + 1) q' k' h1 h2
    obtain ⟨G3, g3, d3⟩ := Gr.tupK g2.j (h 0 q k rfl rfl)
    exact ⟨G3, g2.trans g3, .cons d3 (d2.mono g3.ex)⟩
  | [], _ :: _, hl, _ => by simp at hl
  | _ :: _, [], hl, _ => by simp at hl
theorem vals_of_get : ∀ {xs : List V} {vs : List Value}, xs.length = vs.length → (∀ (i : Nat) (a : V) (b : Value), xs[i]? = some a → vs[i]? = some b → RelV a b) → Vals xs vs
  | [], [], _, _ => .nil
  | x :: xs, v :: vs, hl, h => .cons (h 0 x v rfl rfl) (vals_of_get (by simpa using hl) fun i a b h1 h2 => h (i + 1) a b h1 h2)
  | [], _ :: _, hl, _ => by simp at hl
  | _ :: _, [], hl, _ => by simp at hl
theorem vals_refs : ∀ qs : List Addr, Vals (qs.map V.ref) (qs.map Value.ref)
  | [] => .nil
  | q :: qs => .cons rfl (vals_refs qs)
theorem refs_list : ∀ vs : List Value, (∀ v ∈ vs, ∃ q, v = Value.ref q) → ∃ qs : List Addr, vs = qs.map Value.ref
  | [], _ => ⟨[], rfl⟩
  | v :: vs, h => by
    obtain ⟨q, rfl⟩ := h v List.mem_cons_self
    obtain ⟨qs, rfl⟩ := refs_list vs fun v hv => h v (List.mem_cons_of_mem _ hv)
    exact ⟨q :: qs, rfl⟩
theorem datK_keys : ∀ {kvs : List (Key × V)} {ks : List (D × D)}, DatK K B G kvs ks → Dats K B G (kvs.map fun p => kV p.1) (ks.map (·.1))
  | _, _, .nil => .nil
  | _, _, .consI _ t => .cons (.int _) (datK_keys t)
  | _, _, .consS _ t => .cons (.str _) (datK_keys t)
theorem datT_keys : ∀ {kvs : List (List Key × V)} {ks : List (D × D)}, DatT K B G kvs ks → (kvs.map (·.1)).map embT = ks.map (·.1)
  | _, _, .nil => rfl
  | _, _, .cons _ t => by rw [List.map_cons, List.map_cons, List.map_cons, datT_keys t]
theorem each_dats {xs : List V} {vs : List Value} {ds : List D} (rv : Vals xs vs) (hd : Dats K B G xs ds) : EachIs (fun v d => ∃ x, RelV x v ∧ Dat K B G x d) vs ds := by
  induction rv generalizing ds with
  | nil => cases hd; exact .nil
  | cons r _ ih =>
    cases hd with
    | cons h t => exact .cons ⟨_, r, h⟩ (ih t)
theorem dats_each {vs : List Value} {ds : List D} (e : EachIs (fun v d => ∃ x, RelV x v ∧ Dat K B G x d) vs ds) : ∃ xs, Vals xs vs ∧ Dats K B G xs ds := by
  induction e with
  | nil => exact ⟨[], .nil, .nil⟩
  | cons h _ ih =>
    obtain ⟨x, r, d⟩ := h
    obtain ⟨xs, a, b⟩ := ih
    exact ⟨x :: xs, .cons r a, .cons d b⟩
end
section
variable {X : Cx} {B : Bx} {pins : List (Addr × Obj)} {σ : L2.St} {H G : Hp} {s : Shared}
theorem sorted_V {x : Value} {vs : List Value} {xs : List V} {ds : List D} {P : VK} (hu : X.A.units + 70 < cLine) (I : Inv X pins σ H s) (hc : ∀ (P : List Value → Shared → Prop) (E : Value → Shared → Prop), (∀ h' tk, (∀ b o, s.heap.get? b = some o → h'.get? b = some o) → P vs { s with heap := h', toks := tk }) → wpAny (model X.prog X.w) X.A.in1 (collect x) P E s)
    (rv : Vals xs vs) (jex : Ex G H) (hd : Dats X.K B G xs ds) (ok : SrtOk ds) (hl : ds.length ≤ sizeLine) (k : ∀ ys p, Dats X.K B G ys (sortD ds) → H p = none → P (.ref p) (upd H p (.lst ys))) :
    wpAny (model X.prog X.w) X.A (call (.builtin "sorted") [x]) (EP X pins σ P) X.xe s := by
  have e := each_dats rv hd
  have er : EachIs (fun v (b : D) => ∃ as, Reads s.heap v b.py as) vs ds := (each_mem e).mono fun v d ⟨⟨y, r, dd⟩, m⟩ => Dp.reads I _ _ _ (dat_dp jex dd (Bool.and_eq_true_iff.mp (ok.pl d m)).1) r
  refine sorted_col (fun P h => hc P _ h) e er ok.al ok.so hl (fun b m => ?_) fun out h1 h' tk p n hlen eo kp1 kp hp hn => ?_
  · have h1 := Bool.and_eq_true_iff.mp (ok.pl b m)
    have := py_dep b h1.1
    have h3 : b.dep ≤ 64 := of_decide_eq_true h1.2
    omega
  · obtain ⟨ys, r2, d2⟩ := dats_each eo
    have hz : ys.length ≤ sizeLine := by rw [r2.length, hlen]; exact hl
    exact ⟨.ref p, upd H p (.lst ys), (I.kept (t' := tk) kp1).laid (t' := tk) kp hp ⟨hz, out, n, r2, hn⟩, rfl, k ys p d2 ((I.kept (t' := tk) kp1).hok.fresh hp)⟩
def rSortG (K : PySem.W.Frag) (B : Bx) : List V → Hp → VK → Prop := fun vs H P => ∃ (G : Hp) (d : D) (v : V) (ds : List D), vs = [v] ∧ Jn K B G H ∧ Dat K B G v d ∧ srcD d = some ds ∧ SrtOk ds ∧
  ∀ ys p G2, Gr K B G H G2 H → Dats K B G2 ys (sortD ds) → H p = none → P (.ref p) (upd H p (.lst ys))
theorem cr_sortG (hc : X.calm = true) (hu : X.A.units + 70 < cLine) : CallR X (.builtin "sorted") (rSortG X.K B) := by
  intro pins s σ H xs us Q I r h
  obtain ⟨G, d, v, ds, rfl, j, hd, hs, ok, k⟩ := h
  obtain ⟨u, rfl, ru⟩ := vals1 r
  cases hd with
  | @lst a xs ds h1 h2 =>
    cases hs
    cases ru
    obtain ⟨its, rv, hl, hz⟩ := I.list (sq_of (j.ex _ _ h1))
    have hz' : its.length ≤ sizeLine := by rw [← rv.length]; exact hz
    refine sorted_V hu I (fun P E h => ?_) rv j.ex h2 ok (by rw [← h2.len]; exact hz) fun ys p hy hp => k ys p G (Gr.refl j) hy hp
    refine collect_list hl.isList (h _ _ fun b o q => ?_) hz'
    have hlt : b < s.heap.objs.size := Heap.lt_size q
    rw [Heap.get?_update_ne _ _ _ _ (Nat.ne_of_lt hlt)]
    exact Heap.get?_push_of_some _ q
  | @dK a od kvs ks h1 h2 =>
    cases hs
    cases ru
    obtain ⟨hs, hgd, hx, es, ep, vs, hdt, hsz, kv, hm⟩ := I.frzK (j.ex _ _ h1)
    have hlen := h2.len
    obtain ⟨z, _, _⟩ := dk_rd I.hok (.inr ⟨od, j.ex _ _ h1⟩)
    have hl : (ks.map (·.1)).length ≤ sizeLine := by rw [List.length_map, ← hlen]; exact z
    have hvl : kvs.length = vs.length := Paired.length kv
    obtain ⟨es2, ep2, raw, hsz2, hk2⟩ := Heap.DictOf.raw hm.dictOf
    refine sorted_V (vs := es2.toList.map (·.key)) (xs := kvs.map fun p => kV p.1) (ds := ks.map (·.1)) hu I (fun P E h => ?_) ?_ j.ex ?_ ok hl fun ys p hy hp => k ys p G (Gr.refl j) hy hp
    · refine kdu_collect (A := X.A.in1) (KdlSrc.rawDict (es := es2) (ep := ep2) hs) (I.ok.hd hc) raw (by rw [hsz2, ← hvl]; exact z) fun h' tk acc hk hacc => ?_
      have : acc.toList = es2.toList.map (·.key) := by
        apply List.ext_getElem?
        intro i
        rw [List.getElem?_map, Array.getElem?_toList, Array.getElem?_toList]
        by_cases hi : i < es2.size
        · have h3 : i < acc.size := by rw [hacc.1]; exact hi
          rw [Array.getElem?_eq_getElem hi, Array.getElem?_eq_getElem h3]
          obtain ⟨_, e⟩ := hacc.2 i _ (Array.getElem?_eq_getElem h3)
          rw [e]
          rfl
        · rw [Array.getElem?_eq_none (by rw [hacc.1]; omega), Array.getElem?_eq_none (by omega)]
          rfl
      rw [this]
      exact h _ _ hk
    · refine vals_of_get (by rw [List.length_map, List.length_map, hvl, ← hsz2]; exact (Array.length_toList).symm) fun i a b ha hb => ?_
      rw [List.getElem?_map] at ha hb
      obtain ⟨⟨k1, v1⟩, e1, rfl⟩ := Option.map_eq_some_iff.mp ha
      obtain ⟨en, e2, rfl⟩ := Option.map_eq_some_iff.mp hb
      rw [Array.getElem?_toList] at e2
      obtain ⟨u, e3, _⟩ := kv_get kv e1
      obtain ⟨hi, e4⟩ := Array.getElem?_eq_some_iff.mp e2
      have := (hk2 i hi k1 u e3).1
      rw [e4] at this
      exact relV_key this
    · exact datK_keys h2
  | @dT a od kvs ks h1 h2 =>
    cases hs
    cases ru
    obtain ⟨hs, hgd, hx, es, ep, hdt, hsz, ent⟩ := I.frzT (j.ex _ _ h1)
    have hlen := h2.len
    obtain ⟨z, _, _⟩ := dt_rd I.hok (.inr ⟨od, j.ex _ _ h1⟩)
    have hl : (ks.map (·.1)).length ≤ sizeLine := by rw [List.length_map, ← hlen]; exact z
    have raw : s.heap.DictRaw a es ep := ⟨od, hgd, hx, hdt⟩
    obtain ⟨qs, hqs⟩ : ∃ qs : List Addr, es.toList.map (·.key) = qs.map Value.ref := by
      refine refs_list _ fun v hv => ?_
      obtain ⟨en, he, rfl⟩ := List.mem_map.mp hv
      obtain ⟨i, hi, e⟩ := List.getElem_of_mem he
      have hi' : i < kvs.length := by rw [← hsz]; simpa using hi
      obtain ⟨en', q, h3, h4, _⟩ := ent i _ _ (show kvs[i]? = some (kvs[i].1, kvs[i].2) from List.getElem?_eq_getElem hi')
      rw [← Array.getElem?_toList, List.getElem?_eq_getElem hi, e] at h3
      cases h3
      exact ⟨q, h4⟩
    have hql : qs.length = kvs.length := by
      have := congrArg List.length hqs
      rw [List.length_map, List.length_map, Array.length_toList] at this
      omega
    obtain ⟨G2, g2, d2⟩ := Gr.tupKs j (qs := qs) (kk := kvs.map (·.1)) (by rw [List.length_map]; exact hql) fun i q kk h3 h4 => by
      rw [List.getElem?_map] at h4
      obtain ⟨⟨k1, v1⟩, e1, rfl⟩ := Option.map_eq_some_iff.mp h4
      obtain ⟨en, q', h5, h6, h7⟩ := ent i _ _ e1
      have h8 : (es.toList.map (·.key))[i]? = some (.ref q) := by rw [hqs, List.getElem?_map, h3]; rfl
      rw [List.getElem?_map, Array.getElem?_toList, h5] at h8
      have h9 : en.key = .ref q := Option.some.inj h8
      rw [h6] at h9
      cases h9
      exact h7
    refine sorted_V (G := G2) (vs := qs.map Value.ref) (xs := qs.map V.ref) (ds := ks.map (·.1)) hu I (fun P E h => ?_) (vals_refs qs) g2.j.ex ?_ ok hl fun ys p hy hp => k ys p G2 g2 hy hp
    · refine kdu_collect (A := X.A.in1) (KdlSrc.rawDict (es := es) (ep := ep) hs) (I.ok.hd hc) raw (by rw [hsz]; exact z) fun h' tk acc hk hacc => ?_
      have : acc.toList = es.toList.map (·.key) := by
        apply List.ext_getElem?
        intro i
        rw [List.getElem?_map, Array.getElem?_toList, Array.getElem?_toList]
        by_cases hi : i < es.size
        · have h3 : i < acc.size := by rw [hacc.1]; exact hi
          rw [Array.getElem?_eq_getElem hi, Array.getElem?_eq_getElem h3]
          obtain ⟨_, e⟩ := hacc.2 i _ (Array.getElem?_eq_getElem h3)
          rw [e]
          rfl
        · rw [Array.getElem?_eq_none (by rw [hacc.1]; omega), Array.getElem?_eq_none (by omega)]
          rfl
      rw [this, hqs]
      exact h _ _ hk
    · rw [datT_keys h2] at d2
      exact d2
  | _ => cases hs
end
/-- sorted(x): x a list, or a dict -/
def srtL (ds : List D) (Q : List D → Prop) : Prop := match ds with
  | [.lst xs] => SrtOk xs ∧ Q (sortD xs)
  | [.dic ks] => SrtOk (ks.map (·.1)) ∧ Q (sortD (ks.map (·.1)))
  | _ => False
def fSorted (ra : DA) : DA := fun δ Q => ra δ fun ds => srtL ds Q
theorem srtL_src {ds : List D} {Q : List D → Prop} (h : srtL ds Q) : ∃ d xs, ds = [d] ∧ srcD d = some xs ∧ SrtOk xs ∧ Q (sortD xs) := by
  match ds, h with
  | [.lst xs], h => exact ⟨_, xs, rfl, rfl, h.1, h.2⟩
  | [.dic ks], h => exact ⟨_, _, rfl, rfl, h.1, h.2⟩
section
variable {X : Cx} {B : Bx} {e : Expr} {rA : DA} {pos : Pos}
theorem pf_sorted {p : Pos} (hc : X.calm = true) (hu : X.A.units + 70 < cLine) (hg : Gl X "sorted") (hm : X.mg "sorted" = none) (ha : PAD X B [e] rA) (hs : starEach [e] X.env = (false, eval e X.env) :: starEach [] X.env := by rfl) (hpl : (backTo pos (starEach [] X.env)).any (·.1) = false := by rfl) :
    PF X B (.Call (.Name "sorted" p) [e] [] pos) (fSorted rA) :=
  pe_mono (pe_callB (cr_sortG (B := B) hc hu) hg hm (by decide +kernel) ha (by decide) (by decide) hs hpl) fun σ H P q => by
  obtain ⟨H0, G, δ, Q, j, st, hr, k⟩ := q
  refine ⟨H0, G, δ, _, j, st, hr, fun ds vs G2 H2 q2 g2 h2 => ?_⟩
  obtain ⟨d, xs, rfl, hs, ok, q⟩ := srtL_src q2
  cases h2 with
  | cons h3 h4 =>
    cases h4
    refine ⟨G2, d, _, xs, rfl, g2.j, h3, hs, ok, fun ys p G3 g3 hy hp => ?_⟩
    exact pf_new k (g2.trans g3) hp hy q
end
theorem room_u70 {k : Nat} {A : Around} (h : Room k A) : A.units + 70 < cLine := by have := h.un; omega
section
variable {δ : DS} {rA : DA} {QL : List D → Prop} {xs : List D} {ks : List (D × D)}
theorem z_sorted : fSorted rA δ QL = rA δ fun ds => srtL ds QL := propext Iff.rfl
theorem z_srtL : srtL [.lst xs] QL = (SrtOk xs ∧ QL (sortD xs)) := propext Iff.rfl
theorem z_srtD : srtL [.dic ks] QL = (SrtOk (ks.map (·.1)) ∧ QL (sortD (ks.map (·.1)))) := propext Iff.rfl
end
theorem sort_map {α : Type} (f : α → D) (le : α → α → Bool) {l : List α} (h : ∀ a ∈ l, ∀ b ∈ l, dleD (f a) (f b) = le a b) : sortD (l.map f) = (l.mergeSort le).map f :=
  (sort_maps (r := le) (s := dleD) f fun a ha b hb => (h a ha b hb).symm).symm
theorem dleD_eq (a b : D) : dleD a b = !dataLt b.py a.py := rfl
theorem dle_int (a b : Int) : dleD (.int a) (.int b) = decide (a ≤ b) := by
  rw [dleD_eq, D.py, D.py, dataLt_int]
  by_cases h : a ≤ b
  · rw [decide_eq_false (by omega), decide_eq_true h]; rfl
  · rw [decide_eq_true (by omega), decide_eq_false h]; rfl
/-- tuples: by the first item, then by the rest -/
theorem lt_tup_cons {x y : PyData} {xs ys : List PyData} (h : alike x y = true) : dataLt (.tuple (x :: xs)) (.tuple (y :: ys)) = if PyData.eqv x y = true then dataLt (.tuple xs) (.tuple ys) else dataLt x y := by
  rw [dataLt_tuple, dataLt_tuple]
  cases e : PyData.eqv x y with
  | true => rw [if_pos rfl]; exact dataLt_all_yes h e
  | false => rw [if_neg (by decide)]; exact dataLt_all_no h e
theorem lt_tup_nil : dataLt (.tuple []) (.tuple []) = false := by rw [dataLt_tuple]; rfl
end DL
namespace DL
open PySem PySem.Spec PyProof.Rows L2 Evl PySem.W
end DL
namespace DL
open PySem PySem.Spec PyProof.Rows L2 Evl
end DL
namespace DL
open PySem PySem.Spec PyProof.Rows L2 Evl
def idxK {α : Type} (ks : List (D × α)) (y : D) : Option Nat := ks.findIdx? fun z => keqD z.1 y
def idxD {α : Type} (ks : List (D × α)) (y : D) (K : Nat → Prop) : Prop := match idxK ks y with
  | some n => K n
  | none => False
/-- x[k], x a dict -/
def rDx (ρ : DR) (ri : DE) : DR := fun δ Q => ρ δ fun i π => ri δ fun y => dicAt δ i π fun _ ks => idxD ks y fun n => Q i (π ++ [n])
theorem loc_appK {H : Hp} : ∀ (π : List Nat) {v u : V} {p : Addr} {vs : List (Key × V)} {k : Nat} {w : Key × V}, locV H v π = some u → u = .ref p → H p = some (.dK vs) → vs[k]? = some w → locV H v (π ++ [k]) = some w.2
  | [], v, u, p, vs, k, w, h, hu, hp, hk => by
    have h : some v = some u := by cases v <;> exact h
    cases h
    subst hu
    show (match H p with | some (.lst vs) => _ | some (.dK vs) => (match vs[k]? with | some u => locV H u.2 [] | none => none) | some (.dT vs) => _ | _ => none) = _
    rw [hp]
    show (match vs[k]? with | some u => locV H u.2 [] | none => none) = _
    rw [hk]
    obtain ⟨_, w⟩ := w
    cases w <;> rfl
  | n :: π, v, u, p, vs, k, w, h, hu, hp, hk => by
    cases v with
    | ref a =>
      have h : (match H a with | some (.lst vs) => (match vs[n]? with | some u => locV H u π | none => none) | some (.dK vs) => (match vs[n]? with | some u => locV H u.2 π | none => none) | some (.dT vs) => (match vs[n]? with | some u => locV H u.2 π | none => none) | _ => none) = some u := h
      show (match H a with | some (.lst vs) => (match vs[n]? with | some u => locV H u (π ++ [k]) | none => none) | some (.dK vs) => (match vs[n]? with | some u => locV H u.2 (π ++ [k]) | none => none) | some (.dT vs) => (match vs[n]? with | some u => locV H u.2 (π ++ [k]) | none => none) | _ => none) = _
      split at h
      · split at h
        · exact loc_appK π h hu hp hk
        · cases h
      · split at h
        · exact loc_appK π h hu hp hk
        · cases h
      · split at h
        · exact loc_appK π h hu hp hk
        · cases h
      · cases h
    | _ => cases h
theorem loc_appT {H : Hp} : ∀ (π : List Nat) {v u : V} {p : Addr} {vs : List (List Key × V)} {k : Nat} {w : List Key × V}, locV H v π = some u → u = .ref p → H p = some (.dT vs) → vs[k]? = some w → locV H v (π ++ [k]) = some w.2
  | [], v, u, p, vs, k, w, h, hu, hp, hk => by
    have h : some v = some u := by cases v <;> exact h
    cases h
    subst hu
    show (match H p with | some (.lst vs) => _ | some (.dK vs) => _ | some (.dT vs) => (match vs[k]? with | some u => locV H u.2 [] | none => none) | _ => none) = _
    rw [hp]
    show (match vs[k]? with | some u => locV H u.2 [] | none => none) = _
    rw [hk]
    obtain ⟨_, w⟩ := w
    cases w <;> rfl
  | n :: π, v, u, p, vs, k, w, h, hu, hp, hk => by
    cases v with
    | ref a =>
      have h : (match H a with | some (.lst vs) => (match vs[n]? with | some u => locV H u π | none => none) | some (.dK vs) => (match vs[n]? with | some u => locV H u.2 π | none => none) | some (.dT vs) => (match vs[n]? with | some u => locV H u.2 π | none => none) | _ => none) = some u := h
      show (match H a with | some (.lst vs) => (match vs[n]? with | some u => locV H u (π ++ [k]) | none => none) | some (.dK vs) => (match vs[n]? with | some u => locV H u.2 (π ++ [k]) | none => none) | some (.dT vs) => (match vs[n]? with | some u => locV H u.2 (π ++ [k]) | none => none) | _ => none) = _
      split at h
      · split at h
        · exact loc_appT π h hu hp hk
        · cases h
      · split at h
        · exact loc_appT π h hu hp hk
        · cases h
      · split at h
        · exact loc_appT π h hu hp hk
        · cases h
      · cases h
    | _ => cases h
section
variable {K : PySem.W.Frag} {B : Bx} {G H : Hp}
theorem idx_cons {α : Type} {z : D × α} {ks : List (D × α)} {y : D} : idxK (z :: ks) y = if keqD z.1 y = true then some 0 else (idxK ks y).map (· + 1) := by
  unfold idxK
  rw [List.findIdx?_cons]
theorem OwnK.idx : ∀ {vs : List (Key × V)} {xs : List (D × OD)} {f : List Addr}, OwnK K B G H vs xs f → ∀ {k : Key} {n : Nat}, idxK xs (embK k) = some n → ∃ v, valV vs k = some v ∧ vs[n]? = some (k, v)
  | _, _, _, .nil, _, _, e => nomatch e
  | _, _, _, .consI (i := i) (v := v) h t, k, n, e => by
    rw [idx_cons] at e
    have q : keqD (.int i) (embK k) = decide ((.inl i : Key) = k) := keqD_K (.inl i) k
    by_cases c : (.inl i : Key) = k
    · rw [if_pos (by rw [q]; exact decide_eq_true c)] at e
      cases e
      exact ⟨v, valV_pos (p := (Sum.inl i, v)) c, by rw [← c]; rfl⟩
    · rw [if_neg (by rw [q, decide_eq_false c]; decide)] at e
      obtain ⟨m, e1, rfl⟩ := Option.map_eq_some_iff.mp e
      obtain ⟨w, a, b⟩ := OwnK.idx t e1
      exact ⟨w, (valV_neg (p := (Sum.inl i, v)) c).trans a, b⟩
  | _, _, _, .consS (x := i) (v := v) h t, k, n, e => by
    rw [idx_cons] at e
    have q : keqD (.str i) (embK k) = decide ((.inr i : Key) = k) := keqD_K (.inr i) k
    by_cases c : (.inr i : Key) = k
    · rw [if_pos (by rw [q]; exact decide_eq_true c)] at e
      cases e
      exact ⟨v, valV_pos (p := (Sum.inr i, v)) c, by rw [← c]; rfl⟩
    · rw [if_neg (by rw [q, decide_eq_false c]; decide)] at e
      obtain ⟨m, e1, rfl⟩ := Option.map_eq_some_iff.mp e
      obtain ⟨w, a, b⟩ := OwnK.idx t e1
      exact ⟨w, (valV_neg (p := (Sum.inr i, v)) c).trans a, b⟩
theorem OwnT.idx : ∀ {vs : List (List Key × V)} {xs : List (D × OD)} {f : List Addr}, OwnT K B G H vs xs f → ∀ {k : List Key} {n : Nat}, idxK xs (embT k) = some n → ∃ v, valV vs k = some v ∧ vs[n]? = some (k, v)
  | _, _, _, .nil, _, _, e => nomatch e
  | _, _, _, .cons (k := i) (v := v) h t, k, n, e => by
    rw [idx_cons] at e
    have q := keqD_T i k
    by_cases c : i = k
    · rw [if_pos (by rw [q]; exact decide_eq_true c)] at e
      cases e
      exact ⟨v, valV_pos (p := (i, v)) c, by rw [← c]; rfl⟩
    · rw [if_neg (by rw [q, decide_eq_false c]; decide)] at e
      obtain ⟨m, e1, rfl⟩ := Option.map_eq_some_iff.mp e
      obtain ⟨w, a, b⟩ := OwnT.idx t e1
      exact ⟨w, (valV_neg (p := (i, v)) c).trans a, b⟩
theorem OwnK.idxT : ∀ {vs : List (Key × V)} {xs : List (D × OD)} {f : List Addr}, OwnK K B G H vs xs f → ∀ k : List Key, idxK xs (embT k) = none
  | _, _, _, .nil, k => rfl
  | _, _, _, .consI (i := i) h t, k => by
    rw [idx_cons, if_neg (by rw [show D.int i = embK (.inl i) from rfl, keq_KT]; decide), OwnK.idxT t k]
    rfl
  | _, _, _, .consS (x := i) h t, k => by
    rw [idx_cons, if_neg (by rw [show D.str i = embK (.inr i) from rfl, keq_KT]; decide), OwnK.idxT t k]
    rfl
theorem OwnT.idxK' : ∀ {vs : List (List Key × V)} {xs : List (D × OD)} {f : List Addr}, OwnT K B G H vs xs f → ∀ k : Key, idxK xs (embK k) = none
  | _, _, _, .nil, k => rfl
  | _, _, _, .cons h t, k => by
    rw [idx_cons, if_neg (by rw [keq_TK]; decide), OwnT.idxK' t k]
    rfl
theorem idx_key {α : Type} {ks : List (D × α)} {y : D} {n : Nat} (h : idxK ks y = some n) : (∃ k, dk1 y = some k) ∨ ∃ k, dkT y = some k := by
  unfold idxK at h
  obtain ⟨hn, hz, _⟩ := List.findIdx?_eq_some_iff_getElem.mp h
  have := hz
  unfold keqD at this
  cases h1 : dk1 y with
  | some k => exact .inl ⟨k, rfl⟩
  | none =>
    cases h2 : dkT y with
    | some k => exact .inr ⟨k, rfl⟩
    | none =>
      rw [h1, h2] at this
      split at this
      · rename_i e1 e2; cases e2
      · split at this
        · rename_i e1 e2; cases e2
        · cases this
end
section
variable {X : Cx} {B : Bx} {e o i : Expr} {r ri : DE} {ρ : DR} {pos : Pos}
theorem pr_dx (hu : X.A.units + 1 < cLine) (ho : PR X B o ρ) (hi : PD X B i ri) (hs : NoSl i := by intro _ _; rfl) : PR X B (.Subscript o i pos) (rDx ρ ri) := pe_mono (pe_dget hu ho hi hs) fun σ H P q => by
  obtain ⟨H0, G, δ, Q, j, st, hr, k⟩ := q
  refine ⟨H0, G, δ, _, j, st, hr, fun i π v0 v G2 H2 q2 g2 h0 hv => ?_⟩
  refine ⟨H0, G2, δ, _, g2.j, st.gr g2, q2, fun y u G3 H3 q3 g3 h3 => ?_⟩
  obtain ⟨t, ks, hx, q3⟩ := dicAt_at q3
  obtain ⟨fs, a1, a2, a3, a4, _⟩ := (st.gr g2).place hx h0 hv g3
  cases hn : idxK ks y with
  | none => unfold idxD at q3; rw [hn] at q3; exact q3.elim
  | some n =>
    have q4 : Q i (π ++ [n]) := by unfold idxD at q3; rw [hn] at q3; exact q3
    cases a1 with
    | @dK p vs _ f b1 b2 b3 =>
      rcases idx_key hn with ⟨kk, e1⟩ | ⟨kk, e1⟩
      · have := emb_dk1 e1
        subst this
        obtain ⟨w, c1, c2⟩ := b3.idx hn
        exact ⟨p, w, rfl, .inl ⟨vs, kk, .inl b1, keyV h3 e1, c1.symm⟩, k i _ v0 _ G3 H3 q4 (g2.trans g3) h0 (loc_appK π a4 rfl b1 c2)⟩
      · have := emb_dkT e1
        subst this
        rw [b3.idxT] at hn
        cases hn
    | @dT p vs _ f b1 b2 b3 =>
      rcases idx_key hn with ⟨kk, e1⟩ | ⟨kk, e1⟩
      · have := emb_dk1 e1
        subst this
        rw [b3.idxK'] at hn
        cases hn
      · have := emb_dkT e1
        subst this
        obtain ⟨w, c1, c2⟩ := b3.idx hn
        obtain ⟨b, rfl, hb⟩ := keyT h3 e1
        exact ⟨p, w, rfl, .inr ⟨vs, kk, b, .inl b1, rfl, g3.j.ex _ _ hb, c1.symm⟩, k i _ v0 _ G3 H3 q4 (g2.trans g3) h0 (loc_appT π a4 rfl b1 c2)⟩
end
end DL
namespace DL
open PySem PySem.Spec PyProof.Rows L2 Evl
section
variable {K : PySem.W.Frag} {B : Bx} {G H G2 H2 : Hp}
theorem OwnT.gr {v : List (List Key × V)} {o : List (D × OD)} {f : List Addr} (h : OwnT K B G H v o f) (g : Gr K B G H G2 H2) (hf : ∀ p ∈ f, B.nb p) : OwnT K B G2 H2 v o f := h.keep g.ex (g.kept fun p hp => ⟨(h.node p hp).at, hf p hp⟩)
end
section
variable {ri : DA} {g : DG} {tt : DT} {tk : DE} {tv : OE} {vs : List Nat} {δ : DS} {Q : OD → Prop} {QR : Nat → List Nat → Prop} {ρ : DR} {r : DE}
theorem z_rDx : rDx ρ r δ QR = ρ δ fun i π => r δ fun y => dicAt δ i π fun _ ks => idxD ks y fun n => QR i (π ++ [n]) := propext Iff.rfl
end
end DL
namespace L2
open PySem PySem.Spec PyProof.Rows
end L2
namespace DL
open PySem PySem.Spec PyProof.Rows L2 Evl
end DL
namespace L2
open PySem PySem.Spec PyProof.Rows
end L2
namespace DL
open PySem PySem.Spec PyProof.Rows L2 Evl
inductive Prs (K : PySem.W.Frag) (B : Bx) (G H : Hp) : List Addr → List (List Key × V) → List (D × OD) → List Addr → Prop
  | nil : Prs K B G H [] [] [] []
  | cons {t b : Addr} {k : List Key} {v : V} {o : OD} {f g : List Addr} {ts : List Addr} {kvs : List (List Key × V)} {os : List (D × OD)} : H t = some (.tup [.ref b, v]) → H b = some (.tup (k.map kV)) → Own K B G H v o f → Prs K B G H ts kvs os g → Prs K B G H (t :: ts) ((k, v) :: kvs) ((embT k, o) :: os) (f ++ g)
abbrev OP := DS → (List (D × OD) → Prop) → Prop
section
variable {K : PySem.W.Frag} {B : Bx} {G H G2 H2 : Hp}
theorem Prs.own : ∀ {ts : List Addr} {kvs : List (List Key × V)} {os : List (D × OD)} {f : List Addr}, Prs K B G H ts kvs os f → OwnT K B G H kvs os f
  | _, _, _, _, .nil => .nil
  | _, _, _, _, .cons _ _ h t => .cons h t.own
theorem Prs.len : ∀ {ts : List Addr} {kvs : List (List Key × V)} {os : List (D × OD)} {f : List Addr}, Prs K B G H ts kvs os f → ts.length = os.length
  | _, _, _, _, .nil => rfl
  | _, _, _, _, .cons _ _ _ t => by rw [List.length_cons, List.length_cons, t.len]
theorem Prs.keep (e : Ex G G2) (hk : ∀ a o, H a = some (.tup o) → H2 a = some (.tup o)) : ∀ {ts : List Addr} {kvs : List (List Key × V)} {os : List (D × OD)} {f : List Addr}, Prs K B G H ts kvs os f → Kept G H G2 H2 f → Prs K B G2 H2 ts kvs os f
  | _, _, _, _, .nil, _ => .nil
  | _, _, _, _, .cons h1 h2 h t, k => .cons (hk _ _ h1) (hk _ _ h2) (h.keep e k.l) (Prs.keep e hk t k.r)
theorem Prs.append : ∀ {ts us : List Addr} {kvs lvs : List (List Key × V)} {os ps : List (D × OD)} {f g : List Addr}, Prs K B G H ts kvs os f → Prs K B G H us lvs ps g → Prs K B G H (ts ++ us) (kvs ++ lvs) (os ++ ps) (f ++ g)
  | _, _, _, _, _, _, _, _, .nil, h => h
  | _, _, _, _, _, _, _, _, .cons h1 h2 h t, h3 => by
    rw [List.append_assoc]
    exact .cons h1 h2 h (t.append h3)
theorem Jn.noTup (j : Jn K B G H) {a : Addr} {o : List V} (e : H a = some (.tup o)) : B.st a := by
  refine ⟨fun z => ?_, fun t h z => ?_⟩
  · obtain ⟨_, _, _, _, ho, _⟩ := j.bag
    rw [← z, e] at ho
    cases ho
  · obtain ⟨⟨ps, h1, _⟩, _⟩ := j.xt.tb t h
    rw [← z, e] at h1
    cases h1
theorem Gr.keepT (j : Jn K B G H) (g : Gr K B G H G2 H2) : ∀ a o, H a = some (.tup o) → H2 a = some (.tup o) := fun a o e => g.kp a _ (j.noTup e) e
theorem Prs.gr {ts : List Addr} {kvs : List (List Key × V)} {os : List (D × OD)} {f : List Addr} (j : Jn K B G H) (h : Prs K B G H ts kvs os f) (g : Gr K B G H G2 H2) (hf : ∀ p ∈ f, B.nb p) : Prs K B G2 H2 ts kvs os f := h.keep g.ex (g.keepT j) (g.kept fun p hp => ⟨(h.own.node p hp).at, hf p hp⟩)
theorem Prs.upd {ts : List Addr} {kvs : List (List Key × V)} {os : List (D × OD)} {f : List Addr} {p : Addr} {o : HO} (h : Prs K B G H ts kvs os f) (hp : ∀ vs, H p ≠ some (.tup vs)) (np : p ∉ f) : Prs K B G (upd H p o) ts kvs os f :=
  h.keep (Ex.refl _) (fun a o e => by rw [upd_ne (fun z => hp _ (z ▸ e))]; exact e) fun q hq => ⟨upd_ne fun z => by subst z; exact np hq, rfl⟩
end
end DL
namespace DL
open PySem PySem.Spec PyProof.Rows L2 Evl
def fRev (ra : DE) : DA := fun δ Q => ra δ fun x => match x with
  | .lst xs => Q xs.reverse
  | _ => False
section
variable {X : Cx} {B : Bx} {K : PySem.W.Frag} {G H : Hp} {e : Expr} {ra : DE} {pos : Pos}
theorem Dats.reverse : ∀ {v : List V} {d : List D}, Dats K B G v d → Dats K B G v.reverse d.reverse
  | _, _, .nil => .nil
  | _, _, .cons h t => by
    rw [List.reverse_cons, List.reverse_cons]
    exact (Dats.reverse t).append (.cons h .nil)
theorem pf_rev {k : Nat} {p1 p2 p3 : Pos} (ha : PD X B e ra) : PF X B (.Subscript e (.Slice none none (some (.UnaryOp .USub (.Constant (.int 1) k p1) p2)) p3) pos) (fRev ra) := pe_mono (pe_revL ha) fun σ H P q => by
  obtain ⟨H0, G, δ, Q, j, st, hr, k⟩ := q
  refine ⟨H0, G, δ, _, j, st, hr, fun x v G2 H2 q2 g2 h2 => ?_⟩
  cases h2 with
  | lst h4 h5 => exact ⟨_, _, rfl, sq_of (g2.j.ex _ _ h4), fun p hp => pf_new k g2 hp h5.reverse q2⟩
  | _ => exact q2.elim
end
section
variable {ra : DE} {δ : DS} {Q : List D → Prop} {r rb : OP} {QO : OD → Prop} {QP : List (D × OD) → Prop} {ri : DA} {g : DG} {tt : DT} {tk : DE} {tv : OE} {vs : List Nat} {xs : List D}
def revQ (x : D) (Q : List D → Prop) : Prop := match x with
  | .lst xs => Q xs.reverse
  | _ => False
theorem z_rev : fRev ra δ Q = ra δ fun x => revQ x Q := propext Iff.rfl
theorem z_revL : revQ (.lst xs) Q = Q xs.reverse := propext Iff.rfl
end
end DL
namespace DL
open PySem PySem.Spec PyProof.Rows L2 Evl
end DL
namespace DL
open PySem PySem.Spec PyProof.Rows L2 Evl
end DL
namespace L2
open PySem PySem.Spec PyProof.Rows
end L2
namespace DL
open PySem PySem.Spec PyProof.Rows L2 Evl
end DL
namespace DL
open PySem PySem.Spec PyProof.Rows L2 Evl
def updT (kvs lvs : List (List Key × V)) : List (List Key × V) := lvs.foldl (fun acc z => putK acc z.1 z.2) kvs
theorem KT.upd {H : Hp} : ∀ {lvs : List (List Key × V)} {la : XT} {kvs : List (List Key × V)} {xa : XT}, KT H lvs la → KT H kvs xa → KT H (updT kvs lvs) (storedAllH xa la)
  | _, _, _, _, .nil, h => h
  | _, _, _, _, .cons (a := z) (b := y) ⟨h1, h2, h3⟩ t, h => by
    have := KT.upd t (h.put z.1 h2 h3)
    obtain ⟨y1, y2, y3⟩ := y
    cases h1
    exact this
section
variable {K : PySem.W.Frag} {B : Bx} {G H : Hp}
theorem OwnT.put1 {k : List Key} {v : V} {d : D} (hd : Dat K B G v d) {vs : List (List Key × V)} {xs : List (D × OD)} {f : List Addr} (h : OwnT K B G H vs xs f) (nd : f.Nodup) : ∃ f', OwnT K B G H (putK vs k v) (putO xs (embT k) (.sh d)) f' ∧ f'.Nodup ∧ ∀ q ∈ f', q ∈ f := by
  unfold putK putO
  rw [h.any]
  by_cases c : (xs.any fun z => keqD z.1 (embT k)) = true
  · rw [if_pos c, if_pos c]
    exact OwnT.repl hd h nd fun q _ => ⟨rfl, rfl⟩
  · rw [if_neg c, if_neg c]
    exact ⟨f ++ [], OwnT.snoc (.sh hd) h, by rw [List.append_nil]; exact nd, fun q hq => by rw [List.append_nil] at hq; exact hq⟩
theorem OwnT.upd : ∀ {lvs : List (List Key × V)} {ls : List (D × D)}, DatT K B G lvs ls → ∀ {vs : List (List Key × V)} {xs : List (D × OD)} {f : List Addr}, OwnT K B G H vs xs f → f.Nodup → ∃ f', OwnT K B G H (updT vs lvs) (ls.foldl (fun acc z => putO acc z.1 (.sh z.2)) xs) f' ∧ f'.Nodup ∧ ∀ q ∈ f', q ∈ f
  | _, _, .nil, _, _, f, h, nd => ⟨f, h, nd, fun _ z => z⟩
  | _, _, .cons hd t, _, _, f, h, nd => by
    obtain ⟨f1, h1, n1, s1⟩ := OwnT.put1 hd h nd
    obtain ⟨f2, h2, n2, s2⟩ := OwnT.upd t h1 n1
    exact ⟨f2, h2, n2, fun q hq => s1 q (s2 q hq)⟩
end
end DL
namespace DL
open PySem PySem.Spec PyProof.Rows L2 Evl
end DL
namespace DL
open PySem PySem.Spec PyProof.Rows L2 Evl
def sd1 (ks : List (D × OD)) (y : D) : List (D × OD) × Nat := match idxK ks y with
  | some n => (ks, n)
  | none => (ks ++ [(y, .lst [])], ks.length)
def sdL (r : List (D × OD) × Nat) (K : D → List OD → Prop) : Prop := match r.1[r.2]? with
  | some (z, .lst xs) => K z xs
  | _ => False
def dicF (o : OD) (K : List (D × OD) → Prop) : Prop := match o with
  | .dic false ks => K ks
  | _ => False
def dSetdApp (i : Nat) (rk rx : DE) : DTS := fun W δ => ownO δ[i]? fun v o => dicF o fun ks => rk δ fun y => (keyFit false y = true ∧ ks.length < sizeLine) ∧ sdL (sd1 ks y) fun z xs => rx (δ.set i (some (.ow v (.dic false (sd1 ks y).1)))) fun x =>
  xs.length < sizeLine ∧ W.nx (δ.set i (some (.ow v (.dic false ((sd1 ks y).1.set (sd1 ks y).2 (z, .lst (xs ++ [.sh x])))))))
theorem sdL_at {r : List (D × OD) × Nat} {K : D → List OD → Prop} (h : sdL r K) : ∃ z xs, r.1[r.2]? = some (z, .lst xs) ∧ K z xs := by
  unfold sdL at h
  split at h
  · exact ⟨_, _, by assumption, h⟩
  · exact h.elim
theorem dicF_at {o : OD} {K : List (D × OD) → Prop} (h : dicF o K) : ∃ ks, o = .dic false ks ∧ K ks := by
  unfold dicF at h
  split at h
  · exact ⟨_, rfl, h⟩
  · exact h.elim
theorem own_idx {K : PySem.W.Frag} {B : Bx} {G H : Hp} {k : Key} : ∀ {kvs : List (Key × V)} {ks : List (D × OD)} {f : List Addr}, OwnK K B G H kvs ks f → (idxK ks (embK k) = none ∧ valV kvs k = none) ∨ ∃ n key w, idxK ks (embK k) = some n ∧ valV kvs k = some w ∧ kvs[n]? = some (key, w)
  | _, _, _, .nil => .inl ⟨rfl, rfl⟩
  | _, _, _, .consI (i := i) (v := v) h t => by
    rw [idx_cons]
    have q : keqD (.int i) (embK k) = decide ((.inl i : Key) = k) := keqD_K (.inl i) k
    by_cases e : (.inl i : Key) = k
    · rw [valV_pos (p := (Sum.inl i, v)) e, if_pos (by rw [q]; exact decide_eq_true e)]
      exact .inr ⟨0, _, _, rfl, rfl, rfl⟩
    · rw [valV_neg (p := (Sum.inl i, v)) e, if_neg (by rw [q, decide_eq_false e]; decide)]
      rcases own_idx (k := k) t with ⟨a, b⟩ | ⟨n, key, w, a, b, c⟩
      · exact .inl ⟨by rw [a]; rfl, b⟩
      · exact .inr ⟨n + 1, key, w, by rw [a]; rfl, b, c⟩
  | _, _, _, .consS (x := i) (v := v) h t => by
    rw [idx_cons]
    have q : keqD (.str i) (embK k) = decide ((.inr i : Key) = k) := keqD_K (.inr i) k
    by_cases e : (.inr i : Key) = k
    · rw [valV_pos (p := (Sum.inr i, v)) e, if_pos (by rw [q]; exact decide_eq_true e)]
      exact .inr ⟨0, _, _, rfl, rfl, rfl⟩
    · rw [valV_neg (p := (Sum.inr i, v)) e, if_neg (by rw [q, decide_eq_false e]; decide)]
      rcases own_idx (k := k) t with ⟨a, b⟩ | ⟨n, key, w, a, b, c⟩
      · exact .inl ⟨by rw [a]; rfl, b⟩
      · exact .inr ⟨n + 1, key, w, by rw [a]; rfl, b, c⟩
section
variable {X : Cx} {B : Bx} {e ke : Expr} {rk rx : DE} {pos apos cpos : Pos}
theorem dset_same {α : Type} {l : List α} {i : Nat} {a : α} (h : l[i]? = some a) : l.set i a = l := by
  obtain ⟨hi, e⟩ := List.getElem?_eq_some_iff.mp h
  rw [← e]
  exact List.set_getElem_self hi
theorem app_tail {E : VK} {W : DEnds} {σ : L2.St} {δ1 : DS} {i n : Nat} {xs : List OD} {w v0 : V} {G0 H0 G H : Hp} (hx : getS δ1 i [n] = some (.lst xs)) (h0 : σ[i]? = some (some v0)) (hv : locV H v0 [n] = some w) (g0 : Gr X.K B G0 H0 G H) (st : StOk X.K B H0 G H σ δ1)
    (h : rx δ1 fun x => xs.length < sizeLine ∧ W.nx (putS δ1 i [n] (.lst (xs ++ [.sh x])))) (k : ∀ δ G2 H2, W.nx δ → Gr X.K B G0 H0 G2 H2 → Ex G G2 → StOk X.K B H0 G2 H2 σ δ → ∀ v, E v H2) :
    tyV X.K "list" w H ∧ tCons (liftE X.K B rx) tNil σ H fun vs H2 => rAppend w vs H2 E := by
  obtain ⟨_, a1, _⟩ := st.place hx h0 hv (Gr.refl g0.j)
  cases a1 with
  | @lst p vs _ f b1 b2 b3 =>
    refine ⟨.inl ⟨rfl, vs, sq_of b1⟩, H0, G, δ1, _, g0.j, st, h, fun d u G3 H3 q3 g3 h3 => ?_⟩
    obtain ⟨fs, c1, c2, c3, _, c5⟩ := st.place hx h0 hv g3
    cases c1 with
    | @lst _ vs' _ f' d1 d2 d3 =>
      refine ⟨p, vs', u, rfl, rfl, d1, by rw [d3.len]; exact q3.1, ?_⟩
      have hp := c3 p List.mem_cons_self
      have np := (List.nodup_cons.mp c2).1
      refine k _ _ _ q3.2 ((g0.trans g3).own hp.1 d2 hp.2) g3.ex (c5 p _ _ (p :: f') List.mem_cons_self (.lst upd_same d2 ?_) c2 fun q hq => hq) _
      have c4 := (d3.past (ho := .lst (vs' ++ [u])) np).append (Owns.cons (H := upd H3 p (.lst (vs' ++ [u]))) (.sh h3) .nil)
      rw [List.append_nil, List.append_nil] at c4
      exact c4
theorem psd_setdApp {i : Nat} {o : Expr} {lp : Pos} {apos2 cpos2 : Pos} (ho : PE X o (tVar i)) (hk : PD X B ke rk) (he : PD X B e rx) (m : M2 X o "setdefault" apos2 ke (.List [] lp) cpos2)
    (hbase : attributeBase (.Call (.Attribute o "setdefault" apos2) [ke, .List [] lp] [] cpos2) "append" X.env (eval (.Call (.Attribute o "setdefault" apos2) [ke, .List [] lp] [] cpos2) X.env) = eval (.Call (.Attribute o "setdefault" apos2) [ke, .List [] lp] [] cpos2) X.env := by rfl)
    (hfew : ((backTo cpos (starEach [e] X.env)).all (fun x => !x.1) && (backToKw cpos (keywordEach [] X.env)).all (fun x => x.1.isSome) && decide ([e].length + ([] : List Keyword).length + (if ([] : List Keyword).isEmpty then 0 else 1) < 30)) = true := by rfl)
    (hline : (apos.endLine == cpos.line) = true := by rfl) (hs : starEach [e] X.env = (false, eval e X.env) :: starEach [] X.env := by rfl) (hplain : (backTo cpos (starEach [] X.env)).any (·.1) = false := by rfl)
    (hsw : swapsWith (.Call (.Attribute (.Call (.Attribute o "setdefault" apos2) [ke, .List [] lp] [] cpos2) "append" apos) [e] [] cpos) none pos.line X.env = pure false := by rfl) :
    PSD X B (.Expr (.Call (.Attribute (.Call (.Attribute o "setdefault" apos2) [ke, .List [] lp] [] cpos2) "append" apos) [e] [] cpos) pos) (dSetdApp i rk rx) :=
  ps_mono (ps_expr (pe_bm PySem.F.plainAttrs_list PySem.F.slot_list_append PySem.F.type_list_append mt_append (pe_dsetd ho hk (pe_lst pa_nil) m) (pa_cons he pa_nil hs) hbase hfew hline hs hplain) hsw) fun E σ H q => by
  obtain ⟨G0, H0, G, δ, W, g0, st, h, k⟩ := q
  have h : ownO δ[i]? (fun v o => dicF o fun ks => rk δ fun y => (keyFit false y = true ∧ ks.length < sizeLine) ∧ sdL (sd1 ks y) fun z xs => rx (δ.set i (some (.ow v (.dic false (sd1 ks y).1)))) fun x =>
    xs.length < sizeLine ∧ W.nx (δ.set i (some (.ow v (.dic false ((sd1 ks y).1.set (sd1 ks y).2 (z, .lst (xs ++ [.sh x]))))))) ) := h
  unfold ownO at h
  split at h
  · rename_i v o1 h1
    obtain ⟨ks, eo, h⟩ := dicF_at h
    subst eo
    obtain ⟨F, y⟩ := st.ex
    obtain ⟨e1, e2, e3, e4⟩ := y.ow h1
    generalize hFi : F i = Fi at e2 e3 e4
    cases e2 with
    | @dK p kvs _ f b1 b2 b3 =>
      refine ⟨_, e1, p, rfl, .inl ⟨kvs, .inl b1⟩, H0, G, δ, _, g0.j, st, h, fun yd u G2 H2 q2 g2 h2 => ?_⟩
      refine ⟨Nat.zero_le _, fun q hq => ?_⟩
      obtain ⟨⟨kf, kz⟩, q2⟩ := q2
      obtain ⟨z, xs, hz, q2⟩ := sdL_at q2
      obtain ⟨kk, ek⟩ := Option.isSome_iff_exists.mp (show (dk1 yd).isSome = true from kf)
      have eu := keyV h2 ek
      have ey := emb_dk1 ek
      have y2 := y.gr g2
      obtain ⟨_, c2, c3, c4⟩ := y2.ow h1
      rw [hFi] at c2 c3 c4
      have hp2 : H2 p = some (.dK kvs) := g2.keep p _ (e4 p List.mem_cons_self).2 b1
      have hpq : p ≠ q := fun z => by rw [z, hq] at hp2; cases hp2
      have gp2 : G2 p = none := by rw [g2.old p ⟨_, b1, nl rfl⟩]; exact b2
      have nB : B.nb p := (e4 p List.mem_cons_self).2
      have hB : B.nb q := Gr.neB g2.j hq
      have hp3 : L2.upd H2 q (.lst []) p = some (.dK kvs) := by rw [upd_ne hpq]; exact hp2
      have b4 : OwnK X.K B G2 H2 kvs ks f := b3.keep g2.ex fun a ha => by
        have n := b3.node a ha
        refine ⟨?_, g2.old a n.at⟩
        cases w : H a with
        | none => exact absurd w n.at.ne
        | some ob => exact g2.keep a ob (e4 a (List.mem_cons_of_mem _ ha)).2 w
      have kl : kvs.length = ks.length := b4.len
      have g3 := g2.trans (Gr.new0 (o := .lst []) g2.j hq)
      refine ⟨kvs, kk, hp3, eu, by rw [kl]; exact kz, fun w hw => ?_, fun hn => ?_⟩
      · rcases own_idx (k := kk) b4 with ⟨_, a⟩ | ⟨n, key, w', a1, a2, a3⟩
        · rw [a] at hw; cases hw
        · rw [a2] at hw
          cases hw
          have es : sd1 ks yd = (ks, n) := by unfold sd1; rw [ey, a1]
          rw [es] at hz q2
          have hz : ks[n]? = some (z, .lst xs) := hz
          have ed : δ.set i (some (.ow (.ref p) (.dic false ks))) = δ := dset_same h1
          have q2 : rx (δ.set i (some (.ow (.ref p) (.dic false ks)))) (fun x => xs.length < sizeLine ∧ W.nx (δ.set i (some (.ow (.ref p) (.dic false (ks.set n (z, .lst (xs ++ [.sh x])))))))) := q2
          rw [ed] at q2
          have hx : getS δ i [n] = some (.lst xs) := by
            unfold getS
            rw [h1]
            show (match ks[n]? with | some z => getO z.2 [] | none => none) = _
            rw [hz]
            rfl
          refine app_tail hx e1 ?_ (g0.trans g3) (st.gr g3) ?_ fun δ' G5 H5 nx gg ex s5 v => k.nx _ _ _ _ nx gg (g3.ex.trans ex) s5
          · show (match L2.upd H2 q (.lst []) p with | some (.lst vs) => _ | some (.dK vs) => (match vs[n]? with | some u => locV (L2.upd H2 q (.lst [])) u.2 [] | none => none) | some (.dT vs) => _ | _ => none) = _
            rw [hp3]
            show (match kvs[n]? with | some u => locV (L2.upd H2 q (.lst [])) u.2 [] | none => none) = _
            rw [a3]
            cases w <;> rfl
          · have so : ∀ s : OD, setO (.dic false ks) [n] s = .dic false (ks.set n (z, s)) := fun s => by
              show (match ks[n]? with | some z => OD.dic false (ks.set n (z.1, setO z.2 [] s)) | none => .dic false ks) = _
              rw [hz]
              show OD.dic false (ks.set n (z, setO (.lst xs) [] s)) = _
              rw [z_setO0]
            have ep : ∀ s : OD, putS δ i [n] s = δ.set i (some (.ow (.ref p) (.dic false (ks.set n (z, s))))) := fun s => by rw [putS_at h1, so]
            simp only [ep]
            exact q2
      · have es : sd1 ks yd = (ks ++ [(yd, .lst [])], ks.length) := by
          rcases own_idx (k := kk) b4 with ⟨a, _⟩ | ⟨n, key, w', _, a2, _⟩
          · unfold sd1; rw [ey, a]
          · rw [hn] at a2; cases a2
        rw [es] at hz q2
        have hz : (ks ++ [(yd, OD.lst [])])[ks.length]? = some (z, .lst xs) := hz
        rw [List.getElem?_append_right (Nat.le_refl _), Nat.sub_self] at hz
        have hz : some (yd, OD.lst []) = some (z, .lst xs) := hz
        injection hz with hz
        injection hz with hz1 hz2
        injection hz2 with hz2
        subst hz1 hz2
        have ep : putK kvs kk (.ref q) = kvs ++ [(kk, .ref q)] := putK_new _ hn
        rw [ep]
        generalize hH4 : L2.upd (L2.upd H2 q (.lst [])) p (.dK (kvs ++ [(kk, .ref q)])) = H4
        have h4p : H4 p = some (.dK (kvs ++ [(kk, .ref q)])) := by rw [← hH4]; exact upd_same
        have h4q : H4 q = some (.lst []) := by rw [← hH4, upd_ne (Ne.symm hpq)]; exact upd_same
        have h4o : ∀ a, a ≠ p → a ≠ q → H4 a = H2 a := fun a n1 n2 => by rw [← hH4, upd_ne n1, upd_ne n2]
        have gq2 : G2 q = none := fresh_back g2.j.ex hq
        have nf := List.nodup_cons.mp c3
        have fq : ∀ a ∈ f, a ≠ q := fun a ha z => (b4.node a ha).at.ne (z ▸ hq)
        have b5 : OwnK X.K B G2 H4 kvs ks f := b4.keep (Ex.refl _) fun a ha => ⟨h4o a (fun z => nf.1 (z ▸ ha)) (fq a ha), rfl⟩
        have ow : Own X.K B G2 H4 (.ref p) (.dic false (ks ++ [(yd, .lst [])])) (p :: (f ++ (q :: []))) := by
          rw [ey]
          exact .dK h4p gp2 (OwnK.snoc (.lst h4q gq2 .nil) b5)
        have h0q : H0 q = none := (g0.trans g2).free hq
        have nd : (p :: (f ++ (q :: []))).Nodup := List.nodup_cons.mpr ⟨fun z => (List.mem_append.mp z).elim nf.1 fun z => hpq (List.mem_singleton.mp z), List.nodup_append.mpr ⟨nf.2, List.nodup_cons.mpr ⟨by simp, List.nodup_nil⟩, fun a ha b hb z => fq a ha (z.trans (List.mem_singleton.mp hb))⟩⟩
        have fr : ∀ a ∈ p :: (f ++ (q :: [])), H0 a = none ∧ B.nb a := fun a ha => by
          rcases List.mem_cons.mp ha with z | ha
          · subst z; exact e4 _ List.mem_cons_self
          · rcases List.mem_append.mp ha with ha | ha
            · exact e4 a (List.mem_cons_of_mem _ ha)
            · rw [List.mem_singleton.mp ha]; exact ⟨h0q, hB⟩
        have st4 : StOk X.K B H0 G2 H4 σ (δ.set i (some (.ow (.ref p) (.dic false (ks ++ [(yd, .lst [])]))))) := by
          have z := y2.put (i := i) (List.getElem?_eq_some_iff.mp e1).1 (Ex.refl G2) (H2 := H4) (fun a ma na ha => ⟨h4o a (fun z => ha (by rw [hFi, z]; exact List.mem_cons_self)) (fun z => ma.ne (z ▸ hq)), rfl⟩) (.ow ow nd fr) fun a ha => by
            rw [hFi]
            rcases List.mem_cons.mp ha with z | ha
            · exact .inr (z ▸ List.mem_cons_self)
            · rcases List.mem_append.mp ha with ha | ha
              · exact .inr (List.mem_cons_of_mem _ ha)
              · exact .inl (by rw [List.mem_singleton.mp ha]; exact hq)
          rw [dset_same e1] at z
          exact ⟨_, z⟩
        have g4 : Gr X.K B G0 H0 G2 H4 := by
          rw [← hH4]
          exact ((g0.trans g3)).own (e4 p List.mem_cons_self).1 gp2 nB
        have h1' : (δ.set i (some (SD.ow (.ref p) (.dic false (ks ++ [(yd, .lst [])])))))[i]? = some (some (.ow (.ref p) (.dic false (ks ++ [(yd, .lst [])])))) := List.getElem?_set_self (List.getElem?_eq_some_iff.mp h1).1
        have hn2 : (ks ++ [(yd, OD.lst [])])[ks.length]? = some (yd, .lst []) := by rw [List.getElem?_append_right (Nat.le_refl _), Nat.sub_self]; rfl
        refine app_tail (n := ks.length) (xs := []) ?_ e1 ?_ g4 st4 ?_ fun δ' G5 H5 nx gg ex s5 v => k.nx _ _ _ _ nx gg (g2.ex.trans ex) s5
        · unfold getS
          rw [h1']
          show (match (ks ++ [(yd, OD.lst [])])[ks.length]? with | some z => getO z.2 [] | none => none) = _
          rw [hn2]
          rfl
        · show (match H4 p with | some (.lst vs) => _ | some (.dK vs) => (match vs[ks.length]? with | some u => locV H4 u.2 [] | none => none) | some (.dT vs) => _ | _ => none) = _
          rw [h4p]
          show (match (kvs ++ [(kk, V.ref q)])[ks.length]? with | some u => locV H4 u.2 [] | none => none) = _
          rw [← kl, List.getElem?_append_right (Nat.le_refl _), Nat.sub_self]
          rfl
        · have so : ∀ s : OD, setO (OD.dic false (ks ++ [(yd, OD.lst [])])) [ks.length] s = OD.dic false ((ks ++ [(yd, OD.lst [])]).set ks.length (yd, s)) := fun s => by
            show (match (ks ++ [(yd, OD.lst [])])[ks.length]? with | some z => OD.dic false ((ks ++ [(yd, OD.lst [])]).set ks.length (z.1, setO z.2 [] s)) | none => OD.dic false (ks ++ [(yd, OD.lst [])])) = _
            rw [hn2]
            show OD.dic false ((ks ++ [(yd, OD.lst [])]).set ks.length (yd, setO (.lst []) [] s)) = _
            rw [z_setO0]
          have ep : ∀ s : OD, putS (δ.set i (some (SD.ow (.ref p) (.dic false (ks ++ [(yd, .lst [])]))))) i [ks.length] s = δ.set i (some (SD.ow (.ref p) (OD.dic false ((ks ++ [(yd, OD.lst [])]).set ks.length (yd, s))))) := fun s => by rw [putS_at h1', so, List.set_set]
          simp only [ep]
          exact q2
  · exact h.elim
end
end DL
namespace DL
open PySem PySem.Spec PyProof.Rows L2 Evl
section
variable {X : Cx} {B : Bx}
theorem bor_core2 {pins : List (Addr × Obj)} {σ : L2.St} {s : Shared} {H0 G H : Hp} {δ : DS} {i : Nat} {v : V} {o : OD} (I : Inv X pins σ H s) (j : Jn X.K B G H) (st : StOk X.K B H0 G H σ δ) (h1 : δ[i]? = some (some (.ow v o))) :
    ∃ G1 L, Inv X pins σ L s ∧ Jn X.K B G1 L ∧ StOk X.K B H0 G1 L σ (δ.set i (some (.sh o.toD))) ∧ (∀ a, L a = none → H a = none) ∧ ∀ s2 G2 H2, Inv X pins σ H2 s2 → Gr X.K B G1 L G2 H2 → ∃ U G3, Inv X pins σ U s2 ∧ Gr X.K B G H G3 U ∧ (∀ a, H a = none → (∀ q, H2 a ≠ some (LamX.CodeO a q)) → G3 a = none) ∧ ∀ a, H a = none → U a = H2 a := by
  obtain ⟨F, y⟩ := st.ex
  obtain ⟨e1, e2, e3, e4⟩ := y.ow h1
  obtain ⟨L, I2, l⟩ := lock_all (F i) I e3
  have hG : ∀ p ∈ F i, G p = none := fun p hp => (e2.node p hp).1
  have ex := frz_ex (G := G) (H := L) hG
  have nb : B.b ∉ F i := fun z => (e4 _ z).2.1.1 rfl
  have kinds := lkd_kinds l fun p hp => e2.node p hp
  have nf : ∀ p ∈ F i, ∀ o' u', X.H_0 p ≠ some (.frz o' u') := fun p hp => by
    rcases (e2.node p hp).2 with ⟨vs, a⟩ | ⟨vs, a⟩ | ⟨vs, a⟩ <;> exact I.nofrz a trivial
  have nn : ∀ a, ¬ B.nb a → a ∉ F i := fun a n z => n (e4 a z).2
  have xt : Xt B (frzG G L (F i)) L := j.next ex (fun a o n h => (l.out a (nn a n)).trans h) (fun a n _ => by unfold frzG; rw [if_neg (nn a n)]) (fun t h _ => by
    have nt : t.1 ∉ F i := fun z => (e4 _ z).2.tab t h rfl
    exact ⟨l.out _ nt, fun z => by unfold frzG; rw [if_neg nt]; exact z⟩) (fun a ps h => by
    by_cases ha : a ∈ F i
    · rcases kinds a ha with ⟨vs, _, b⟩ | ⟨u, od, _, b⟩ <;> rw [b] at h <;> cases h
    · rw [l.out a ha] at h
      exact ⟨_, h⟩)
  refine ⟨frzG G L (F i), L, I2, ⟨fun a u h => ?_, ?_, ?_, xt⟩, ?_, fun a h => ?_, fun s2 G2 H2 J g => ?_⟩
  · unfold frzG at h
    split at h
    · exact h
    · rename_i hn
      rw [l.out a hn]
      exact j.ex a u h
  · unfold frzG
    rw [if_neg nb]
    exact j.no
  · obtain ⟨a, b, c, ns, h1, h2, h3⟩ := j.bag
    exact ⟨a, b, c, ns, by rw [l.out _ nb]; exact h1, ex_l ex h2, h3⟩
  · have s3 := y.put (i := i) (List.getElem?_eq_some_iff.mp e1).1 ex (H2 := L) (fun p _ _ hp => ⟨l.out p hp, by unfold frzG; rw [if_neg hp]⟩) (.sh (e2.dat hG l fun p hp => hp)) fun p hp => nomatch hp
    rw [set_same e1] at s3
    exact ⟨_, s3⟩
  · by_cases ha : a ∈ F i
    · rcases kinds a ha with ⟨vs, _, b⟩ | ⟨u, od, _, b⟩ <;> rw [b] at h <;> cases h
    · rw [l.out a ha] at h
      exact h
  · have h2 : ∀ p ∈ F i, H2 p = L p := fun p hp => by
      rcases kinds p hp with ⟨vs, _, b⟩ | ⟨u, od, _, b⟩ <;> rw [b] <;> exact g.keep p _ (e4 p hp).2 b
    obtain ⟨U, J2, u1, u2⟩ := unlock_all (H := H) (L := L) (F i) J e3 kinds h2 nf
    refine ⟨U, codG G G2, J2, Gr.back j g ex l.out (fun p hp => ?_) (fun p hp => (e4 p hp).2) hG u1 u2, fun a h n => codG_none (fresh_back j.ex h) (fun q z => n q (g.j.ex _ _ z)), fun a h => u2 a fun z => (e2.node a z).at.ne h⟩
    rw [h2 p hp]
    rcases kinds p hp with ⟨vs, _, b⟩ | ⟨u, od, _, b⟩
    · exact ⟨_, b, ncod (nl rfl)⟩
    · exact ⟨_, b, ncod (nl rfl)⟩
theorem scal_dats {K : PySem.W.Frag} {G G2 : Hp} : ∀ {vs : List V} {ds : List D}, Dats K B G vs ds → ds.all scal = true → Dats K B G2 vs ds
  | _, _, .nil, _ => .nil
  | _, _, .cons h t, s => by
    rw [List.all_cons, Bool.and_eq_true] at s
    exact .cons (scal_dat h s.1) (scal_dats t s.2)
def fBor (i : Nat) (r : DA) : DA := fun δ Q => ownO δ[i]? fun _ o => r (δ.set i (some (.sh o.toD))) fun ds => ds.all scal = true ∧ Q ds
theorem pf_bor {e : Expr} {r : DA} (i : Nat) (h : PF X B e r) : PF X B e (fBor i r) := ⟨fun pins s σ H P I q => by
  obtain ⟨H0, G, δ, Q, j, st, hr, k⟩ := q
  have hr : ownO δ[i]? fun _ o => r (δ.set i (some (.sh o.toD))) fun ds => ds.all scal = true ∧ Q ds := hr
  unfold ownO at hr
  split at hr
  · rename_i v o h1
    obtain ⟨G1, L, I2, j1, s1, nn, back⟩ := bor_core2 I j st h1
    refine thn (h.run pins s σ L (fun x H2 => ∃ G2 ds p vs, x = .ref p ∧ (ds.all scal = true ∧ Q ds) ∧ Gr X.K B G1 L G2 H2 ∧ L p = none ∧ H2 p = some (.lst vs) ∧ Dats X.K B G2 vs ds) I2 ⟨H0, G1, _, _, j1, s1, hr, fun ds p vs G2 H2 q2 g2 n1 n2 n3 n4 => ⟨G2, ds, p, vs, rfl, q2, g2, n1, n3, n4⟩⟩) fun u s2 ⟨x, H2, J, r2, G2, ds, p, vs, ex, q2, g2, n1, n3, n4⟩ => ?_
    subst ex
    obtain ⟨U, G3, J2, g3, gn, un⟩ := back s2 G2 H2 J g2
    have hp := nn p n1
    exact ⟨_, U, J2, r2, k ds p vs G3 U q2.2 g3 hp (gn p hp fun q z => ncod (nl rfl) q (Option.some.inj (n3.symm.trans z))) (by rw [un p hp]; exact n3) (scal_dats n4 q2.1)⟩
  · exact hr.elim⟩
end
section
variable {i : Nat} {r : DA} {δ : DS} {Q : List D → Prop}
theorem z_fBor : fBor i r δ Q = ownO δ[i]? fun _ o => r (δ.set i (some (.sh o.toD))) fun ds => ds.all scal = true ∧ Q ds := propext Iff.rfl
end
end DL
namespace DL
open PySem PySem.Spec PyProof.Rows L2 Evl
section
variable {K : PySem.W.Frag} {B : Bx} {G H : Hp}
theorem OwnK.split : ∀ {kvs : List (Key × V)} {ks : List (D × OD)} {f : List Addr}, OwnK K B G H kvs ks f → ∃ fs : List (List Addr), f = fs.flatten ∧ ∀ (n : Nat) (q : Key × V), kvs[n]? = some q → ∃ (z : D × OD) (fn : List Addr), ks[n]? = some z ∧ fs[n]? = some fn ∧ Own K B G H q.2 z.2 fn
  | _, _, _, .nil => ⟨[], rfl, fun n q e => by simp at e⟩
  | _, _, _, .consI (f := f) h t => by
    obtain ⟨fs, e, r⟩ := OwnK.split t
    refine ⟨f :: fs, by rw [List.flatten_cons, e], fun n q e => ?_⟩
    cases n with
    | zero => cases e; exact ⟨_, f, rfl, rfl, h⟩
    | succ n => exact r n q (by simpa using e)
  | _, _, _, .consS (f := f) h t => by
    obtain ⟨fs, e, r⟩ := OwnK.split t
    refine ⟨f :: fs, by rw [List.flatten_cons, e], fun n q e => ?_⟩
    cases n with
    | zero => cases e; exact ⟨_, f, rfl, rfl, h⟩
    | succ n => exact r n q (by simpa using e)
theorem disj_at : ∀ {fs : List (List Addr)}, fs.flatten.Nodup → ∀ {a b : Nat} {f g : List Addr}, fs[a]? = some f → fs[b]? = some g → a ≠ b → ∀ p ∈ f, p ∉ g
  | x :: fs, nd, 0, 0, _, _, _, _, h, _, _ => absurd rfl h
  | x :: fs, nd, 0, b + 1, f, g, e1, e2, _, p, hp => fun hq => by
    rw [List.flatten_cons] at nd
    cases e1
    exact (List.nodup_append.mp nd).2.2 p hp p (List.mem_flatten.mpr ⟨g, List.mem_of_getElem? (by simpa using e2), hq⟩) rfl
  | x :: fs, nd, a + 1, 0, f, g, e1, e2, _, p, hp => fun hq => by
    rw [List.flatten_cons] at nd
    cases e2
    exact (List.nodup_append.mp nd).2.2 p hq p (List.mem_flatten.mpr ⟨f, List.mem_of_getElem? (by simpa using e1), hp⟩) rfl
  | x :: fs, nd, a + 1, b + 1, f, g, e1, e2, h, p, hp => by
    rw [List.flatten_cons] at nd
    exact disj_at (List.nodup_append.mp nd).2.1 (by simpa using e1) (by simpa using e2) (fun z => h (by rw [z])) p hp
theorem nd_at : ∀ {fs : List (List Addr)}, fs.flatten.Nodup → ∀ {a : Nat} {f : List Addr}, fs[a]? = some f → f.Nodup
  | x :: fs, nd, 0, _, e => by
    rw [List.flatten_cons] at nd
    cases e
    exact (List.nodup_append.mp nd).1
  | x :: fs, nd, a + 1, f, e => by
    rw [List.flatten_cons] at nd
    exact nd_at (List.nodup_append.mp nd).2.1 (by simpa using e)
/-- some values of a dict of one's own, each once, in some order -/
def pickO (ks : List (D × OD)) (ns : List Nat) : List OD := ns.filterMap fun n => (ks[n]?).map (·.2)
def pickV (kvs : List (Key × V)) (ns : List Nat) : List V := ns.filterMap fun n => (kvs[n]?).map (·.2)
theorem OwnK.pick {kvs : List (Key × V)} {ks : List (D × OD)} {f : List Addr} (h : OwnK K B G H kvs ks f) (nd : f.Nodup) (ns : List Nat) (hn : ns.Nodup) (hl : ∀ n ∈ ns, n < kvs.length) : ∃ f', Owns K B G H (pickV kvs ns) (pickO ks ns) f' ∧ f'.Nodup ∧ ∀ p ∈ f', p ∈ f := by
  obtain ⟨fs, e, r⟩ := h.split
  subst e
  suffices hh : ∀ ns : List Nat, ns.Nodup → (∀ n ∈ ns, n < kvs.length) → ∃ f', Owns K B G H (pickV kvs ns) (pickO ks ns) f' ∧ f'.Nodup ∧ (∀ p ∈ f', ∃ n ∈ ns, ∃ g, fs[n]? = some g ∧ p ∈ g) by
    obtain ⟨f', a1, a2, a3⟩ := hh ns hn hl
    refine ⟨f', a1, a2, fun p hp => ?_⟩
    obtain ⟨n, _, g, e, hg⟩ := a3 p hp
    exact List.mem_flatten.mpr ⟨g, List.mem_of_getElem? e, hg⟩
  intro ns
  induction ns with
  | nil => exact fun _ _ => ⟨[], .nil, List.nodup_nil, fun p hp => nomatch hp⟩
  | cons n ns ih =>
    intro hn hl
    have hn' := List.nodup_cons.mp hn
    obtain ⟨f', a1, a2, a3⟩ := ih hn'.2 fun m hm => hl m (List.mem_cons_of_mem _ hm)
    have hlt := hl n List.mem_cons_self
    have eq : kvs[n]? = some (kvs[n]'hlt) := List.getElem?_eq_getElem hlt
    obtain ⟨z, fn, e1, e2, ow⟩ := r n _ eq
    refine ⟨fn ++ f', ?_, List.nodup_append.mpr ⟨nd_at nd e2, a2, fun p hp q hq e => ?_⟩, fun p hp => ?_⟩
    · have ev : pickV kvs (n :: ns) = (kvs[n]'hlt).2 :: pickV kvs ns := by unfold pickV; rw [List.filterMap_cons, eq]; rfl
      have eo : pickO ks (n :: ns) = z.2 :: pickO ks ns := by unfold pickO; rw [List.filterMap_cons, e1]; rfl
      rw [ev, eo]
      exact .cons ow a1
    · subst e
      obtain ⟨m, hm, g, e3, hg⟩ := a3 p hq
      exact disj_at nd e2 e3 (fun z => hn'.1 (z ▸ hm)) p hp hg
    · rcases List.mem_append.mp hp with hp | hp
      · exact ⟨n, List.mem_cons_self, fn, e2, hp⟩
      · obtain ⟨m, hm, g, e3, hg⟩ := a3 p hp
        exact ⟨m, List.mem_cons_of_mem _ hm, g, e3, hg⟩
end
def vL (i : Nat) (g : DG) (ρ : DR) (δ : DS) (Q : List Nat → Prop) : List D → List Nat → Prop
  | [], acc => Q acc
  | d :: ds, acc => g d δ fun δ' => ρ δ' fun j π => match π with
    | [n] => j = i ∧ vL i g ρ δ Q ds (acc ++ [n])
    | _ => False
def dRetVals (i : Nat) (ri : DA) (g : DG) (ρ : DR) (vs : List Nat) : DTS := fun W δ => ownO δ[i]? fun _ o => dicF o fun ks => ri δ fun ds => ds.length ≤ sizeLine ∧ vL i g ρ (wipeD δ vs) (fun ns => (ns.Nodup ∧ ∀ n ∈ ns, n < ks.length) ∧ W.ro (.lst (pickO ks ns))) ds []
section
variable {X : Cx} {B : Bx}
theorem psd_retVals {elt tg iter : Expr} {scope : Scope} {own : List (Str × Nat)} {lpos pos : Pos} {i : Nat} {ri : DA} {g : DG} {is : List Nat} {ρ : DR} (hc : X.calm = true) (hN : X.N.Nodup) (hi : PID X B tg iter ri) (ok : BlkOk X.N X.env.scope scope own) (hv : ∀ j ∈ is, j ∈ own.map (·.2)) (hni : i ∉ own.map (·.2))
    (hg : ∀ (s : Shared) (H : Hp) (C : Addr) (cl : List (Str × Addr)) (fp : List Addr), PGD (X.blk s H scope (compEnvC scope cl C X.env) fp) B tg is g)
    (ht : ∀ (s : Shared) (H : Hp) (C : Addr) (cl : List (Str × Addr)) (fp : List Addr), PTsD (X.blk s H scope (compEnvC scope cl C X.env) fp) B [] dYes)
    (he : ∀ (s : Shared) (H : Hp) (C : Addr) (cl : List (Str × Addr)) (fp : List Addr), PR (X.blk s H scope (compEnvC scope cl C X.env) fp) B elt ρ) (hs : ∀ x, foldedSetIterable iter X.env x = pure x := by intro _; rfl) :
    PSD X B (.Return (some (.ListComp elt [⟨tg, iter, [], 0⟩] scope lpos)) pos) (dRetVals i ri g ρ (own.map (·.2))) :=
  ps_mono (ps_ret (pe_lc (wi := liftI X.K B ri) (g := liftG X.K B is g) (tt := liftT X.K B dYes) (te := liftR X.K B ρ) hc hN hi ok hg ht he hs)) fun E σ H q => by
  obtain ⟨G0, H0, G, δ, W, g0, st, h, k⟩ := q
  have h : ownO δ[i]? (fun _ o => dicF o fun ks => ri δ fun ds => ds.length ≤ sizeLine ∧ vL i g ρ (wipeD δ (own.map (·.2))) (fun ns => (ns.Nodup ∧ ∀ n ∈ ns, n < ks.length) ∧ W.ro (.lst (pickO ks ns))) ds []) := h
  unfold ownO at h
  split at h
  · rename_i v o h1
    obtain ⟨ks, eo, h⟩ := dicF_at h
    subst eo
    obtain ⟨F, y⟩ := st.ex
    obtain ⟨e1, e2, e3, e4⟩ := y.ow h1
    generalize hFi : F i = Fi at e2 e3 e4
    cases e2 with
    | @dK p kvs _ f b1 b2 b3 =>
      refine ⟨H0, G, δ, _, g0.j, st, h, fun ds J G2 H2 q2 g2 it D hD => ?_⟩
      obtain ⟨hz, q2⟩ := q2
      have nb : B.nb D := Gr.neB g2.j hD
      have gD : G2 D = none := fresh_back g2.j.ex hD
      have st2 := st.gr g2
      have nB : B.nb p := (e4 p List.mem_cons_self).2
      have pD : p ≠ D := fun z => by
        have := g2.keep p _ nB b1
        rw [z, hD] at this
        cases this
      refine ⟨fun j m H' => j + m = ds.length ∧ ∃ G' ns, Gr X.K B G2 H2 G' H' ∧ G' D = none ∧ H' D = some (.lst (pickV kvs ns)) ∧ (∀ n ∈ ns, n < kvs.length) ∧ ns.length ≤ j ∧ vL i g ρ (wipeD δ (own.map (·.2))) (fun ns => (ns.Nodup ∧ ∀ n ∈ ns, n < ks.length) ∧ W.ro (.lst (pickO ks ns))) (ds.drop j) ns,
        ⟨ds.length, by omega, G2, [], Gr.new0 g2.j hD, gD, upd_same, fun n hn => (nomatch hn), Nat.le_refl _, q2⟩, fun j m H' hw => ?_⟩
      obtain ⟨em, G', ns, gr, gD', hD', hns, hl, hf⟩ := hw
      by_cases hlt : j < ds.length
      · refine .inr ⟨it.go j G' H' gr.ex gr.j hlt, fun H1 => ∃ G1 ns, Gr X.K B G2 H2 G1 H1 ∧ G1 D = none ∧ H1 D = some (.lst (pickV kvs ns)) ∧ (∀ n ∈ ns, n < kvs.length) ∧ ns.length ≤ j + 1 ∧ vL i g ρ (wipeD δ (own.map (·.2))) (fun ns => (ns.Nodup ∧ ∀ n ∈ ns, n < ks.length) ∧ W.ro (.lst (pickO ks ns))) (ds.drop (j + 1)) ns, fun H1 hn => ⟨m - 1, by omega, by omega, hn⟩, fun x H1 hy => ?_⟩
        have hd : ds[j]? = some ds[j] := List.getElem?_eq_getElem hlt
        obtain ⟨G3, g3, hx⟩ := it.yld j G' H' x H1 _ gr.ex gr.j hy hd
        rw [List.drop_eq_getElem_cons hlt] at hf
        have hpn : Mu H' D := ⟨_, hD', nl rfl⟩
        have hf : g ds[j] (wipeD δ (own.map (·.2))) (fun δ' => ρ δ' fun j' π => match π with
          | [n] => j' = i ∧ vL i g ρ (wipeD δ (own.map (·.2))) (fun ns => (ns.Nodup ∧ ∀ n ∈ ns, n < ks.length) ∧ W.ro (.lst (pickO ks ns))) (ds.drop (j + 1)) (ns ++ [n])
          | _ => False) := hf
        refine ⟨H0, G3, wipeD δ (own.map (·.2)), ds[j], _, g3.j, (st2.gr (gr.trans g3)).wipe (own.map (·.2)), hx, hf, fun σ2 δ2 q3 s3 u3 => ?_⟩
        refine ⟨by rw [u3.wipe hv, wipe_wipe], H0, G3, δ2, fun b => b = true ∧ ρ δ2 (fun j' π => match π with
          | [n] => j' = i ∧ vL i g ρ (wipeD δ (own.map (·.2))) (fun ns => (ns.Nodup ∧ ∀ n ∈ ns, n < ks.length) ∧ W.ro (.lst (pickO ks ns))) (ds.drop (j + 1)) (ns ++ [n])
          | _ => False), g3.j, s3, ⟨rfl, q3⟩, fun b G4 H4 q4 g4 => ?_⟩
        obtain ⟨eb, q4⟩ := q4
        subst eb
        rw [if_pos rfl]
        refine ⟨H0, G4, δ2, _, g4.j, s3.gr g4, q4, fun j' π v0 w G5 H5 q5 g5 h0 hw => ?_⟩
        match π, q5, hw with
        | [n], q5, hw =>
          obtain ⟨ej, q5⟩ := q5
          subst ej
          have g35 := (g3.trans g4).trans g5
          have hp5 : H5 p = some (.dK kvs) := ((g2.trans gr).trans g35).keep p _ nB b1
          have e0 : σ2[j']? = some (some (.ref p)) := by
            rw [u3.2 j' fun z => hni (hv _ z), wipe_at, if_neg fun z => hni z.1]
            exact e1
          rw [h0] at e0
          cases e0
          have hw : (match H5 p with | some (.lst vs) => (match vs[n]? with | some u => locV H5 u [] | none => none) | some (.dK vs) => (match vs[n]? with | some u => locV H5 u.2 [] | none => none) | some (.dT vs) => (match vs[n]? with | some u => locV H5 u.2 [] | none => none) | _ => none) = some w := hw
          rw [hp5] at hw
          have hw : (match kvs[n]? with | some u => locV H5 u.2 [] | none => none) = some w := hw
          cases en : kvs[n]? with
          | none => rw [en] at hw; cases hw
          | some u =>
            rw [en] at hw
            have hw : locV H5 u.2 [] = some w := hw
            have ew : u.2 = w := by
              have : locV H5 u.2 [] = some u.2 := by
                obtain ⟨_, u2⟩ := u
                cases u2 <;> rfl
              rw [this] at hw
              injection hw
            have hlen : (pickV kvs ns).length ≤ ns.length := List.length_filterMap_le _ _
            have gD5 : G5 D = none := by rw [g35.old D hpn]; exact gD'
            refine ⟨pickV kvs ns, g35.keep D _ nb hD', by omega, G5, ns ++ [n], (gr.trans g35).own hD gD5 nb, gD5, ?_, fun a ha => ?_, ?_, q5⟩
            · rw [upd_same]
              have : pickV kvs (ns ++ [n]) = pickV kvs ns ++ [w] := by
                unfold pickV
                rw [List.filterMap_append]
                congr 1
                rw [List.filterMap_cons, en, ← ew]
                rfl
              rw [this]
            · rcases List.mem_append.mp ha with ha | ha
              · exact hns a ha
              · rw [List.mem_singleton.mp ha]
                exact (List.getElem?_eq_some_iff.mp en).1
            · rw [List.length_append]
              show ns.length + 1 ≤ j + 1
              omega
      · have e : j = ds.length := by omega
        subst e
        rw [List.drop_length] at hf
        refine .inl ⟨it.stop _ G' H' gr.ex gr.j (Nat.le_refl _), ?_⟩
        obtain ⟨⟨n1, n2⟩, q3⟩ := hf
        have g3 := g2.trans gr
        have b4 : OwnK X.K B G' H' kvs ks f := b3.keep g3.ex fun a ha => by
          have n := b3.node a ha
          refine ⟨?_, g3.old a n.at⟩
          cases w : H a with
          | none => exact absurd w n.at.ne
          | some ob => exact g3.keep a ob (e4 a (List.mem_cons_of_mem _ ha)).2 w
        obtain ⟨f', a1, a2, a3⟩ := b4.pick (List.nodup_cons.mp e3).2 ns n1 hns
        have fD : D ∉ f' := fun z => by
          have n := b3.node D (a3 D z)
          have := n.at.ne
          rw [g2.free hD] at this
          exact this rfl
        exact k.ro _ _ (D :: f') G' H' q3 (g0.trans g3) g3.ex (.lst hD' gD' a1) (List.nodup_cons.mpr ⟨fD, a2⟩) fun a ha => by
          rcases List.mem_cons.mp ha with z | ha
          · subst z; exact ⟨(g0.trans g2).free hD, nb⟩
          · exact e4 a (List.mem_cons_of_mem _ (a3 a ha))
  · exact h.elim
end
section
variable {i n : Nat} {rk rx : DE} {W : DEnds} {δ : DS} {ri : DA} {g : DG} {ρ : DR} {vs : List Nat} {ks : List (D × OD)} {K : List (D × OD) → Prop} {d : D} {ds : List D} {acc : List Nat} {Q : List Nat → Prop} {K2 : D → List OD → Prop} {z : D} {xs : List OD} {r : List (D × OD) × Nat}
theorem z_setdApp : dSetdApp i rk rx W δ = ownO δ[i]? fun v o => dicF o fun ks => rk δ fun y => (keyFit false y = true ∧ ks.length < sizeLine) ∧ sdL (sd1 ks y) fun z xs => rx (δ.set i (some (.ow v (.dic false (sd1 ks y).1)))) fun x =>
  xs.length < sizeLine ∧ W.nx (δ.set i (some (.ow v (.dic false ((sd1 ks y).1.set (sd1 ks y).2 (z, .lst (xs ++ [.sh x]))))))) := propext Iff.rfl
theorem z_dicF : dicF (.dic false ks) K = K ks := propext Iff.rfl
theorem z_sdL (h : r.1[r.2]? = some (z, .lst xs)) : sdL r K2 = K2 z xs := by
  unfold sdL
  rw [h]
theorem z_retVals : dRetVals i ri g ρ vs W δ = ownO δ[i]? fun _ o => dicF o fun ks => ri δ fun ds => ds.length ≤ sizeLine ∧ vL i g ρ (wipeD δ vs) (fun ns => (ns.Nodup ∧ ∀ n ∈ ns, n < ks.length) ∧ W.ro (.lst (pickO ks ns))) ds [] := propext Iff.rfl
theorem vL_c : vL i g ρ δ Q (d :: ds) acc = g d δ fun δ' => ρ δ' fun j π => match π with
    | [n] => j = i ∧ vL i g ρ δ Q ds (acc ++ [n])
    | _ => False := propext Iff.rfl
theorem vL_n : vL i g ρ δ Q [] acc = Q acc := propext Iff.rfl
end
end DL
namespace L2
open PySem PySem.Spec PyProof.Rows
end L2
namespace DL
open PySem PySem.Spec PyProof.Rows L2 Evl PySem.W
end DL
namespace DL
open PySem PySem.Spec PyProof.Rows L2 Evl
end DL
namespace PySem.W
open PySem PySem.Spec PyProof.Rows
end PySem.W
namespace DL
open PySem PySem.Spec PyProof.Rows L2 Evl PySem.W
end DL
namespace L2
open PySem PySem.Spec PyProof.Rows
end L2
namespace DL
open PySem PySem.Spec PyProof.Rows L2 Evl
end DL
namespace L2
open PySem PySem.Spec PyProof.Rows
section
variable {X : Cx} {e a b : Expr} {t t' ta tb te : TE} {pos : Pos}
theorem PSsT.nox {st : List Stmt} {t : TS} (h : PSsT X.nox st t) : PSsT X st t := fun pins s σ H D h0 I hw =>
  wpAny_mono (h pins s σ H D h0 (I.wish _) hw) (fun _ _ q => q.unwish) fun _ _ z => False.elim z
end
end L2
namespace DL
open PySem PySem.Spec PyProof.Rows L2 Evl
end DL
namespace DL
open PySem PySem.Spec PyProof.Rows L2 Evl
end DL
namespace DL
open PySem PySem.Spec PyProof.Rows L2 LamX NdefX
end DL
namespace DL
open PySem PySem.Spec PyProof.Rows L2 Evl
/-- the wish about exceptions: the class's number, the field's name, what it holds -/
abbrev XW := Nat → Str → D → Prop
def XL (K : PySem.W.Frag) (B : Bx) (Wx : XW) : XK := fun cls d H' => ∃ (G' : Hp) (c : Nat) (f : Str) (y : D) (v : V) (dd : Addr), Wx c f y ∧ Jn K B G' H' ∧ cls = .ref (B.ct c) ∧ d = some dd ∧ H' dd = some (.xd [(f, v)]) ∧ Dat K B G' v y
theorem XL.imp {K : PySem.W.Frag} {B : Bx} {Wx W2 : XW} (h : ∀ c f y, Wx c f y → W2 c f y) {cls : Value} {d : Option Addr} {H : Hp} (x : XL K B Wx cls d H) : XL K B W2 cls d H := by
  obtain ⟨G', c, f, y, v, dd, a, b⟩ := x
  exact ⟨G', c, f, y, v, dd, h _ _ _ a, b⟩
end DL
namespace DL
open PySem PySem.Spec PyProof.Rows L2 Evl
end DL
namespace DL
open PySem PySem.Spec PyProof.Rows L2 Evl
end DL
namespace DL
open PySem PySem.Spec PyProof.Rows L2 LamX
end DL
namespace DL
open PySem PySem.Spec PyProof.Rows L2 Evl LamX
/-- nothing is new, or one code object, written into the table at P -/
def Mk1 (H : Hp) (P : Addr) (q : Str) (c' : Addr) (H1 : Hp) : Prop := H1 = H ∨ (H c' = none ∧ ∃ ps ps' : Array Value, H P = some (.tbl ps) ∧ H1 = upd (upd H P (.tbl ps')) c' (CodeO c' q) ∧ TriplesOk ps'.toList ∧
  ∀ (pos : Pos) (cv : Value), codeAmong pos ps'.toList = some cv → codeAmong pos ps.toList = some cv ∨ cv = .ref c')
section
variable {K : PySem.W.Frag} {B : Bx} {G H H1 : Hp} {P c' : Addr} {q : Str}
/-- behind the making of a lambda: all stands, its code object is known -/
theorem Gr.tab (j : Jn K B G H) (hm : (P, q) ∈ B.tb) (hu : ∀ t ∈ B.tb, t.1 = P → t.2 = q) (m : Mk1 H P q c' H1) : ∃ G1, Gr K B G H G1 H1 := by
  rcases m with rfl | ⟨hc, ps, ps', hP, rfl, ht, ha⟩
  · exact ⟨G, Gr.refl j⟩
  · have gc : G c' = none := fresh_back j.ex hc
    obtain ⟨⟨ps0, z1, z2, z3⟩, gP⟩ := j.xt.tb _ hm
    have z1 : H P = some (.tbl ps0) := z1
    rw [hP] at z1
    cases z1
    have nPc : P ≠ c' := ne_of_none hP hc
    have bagb : ∃ xs, H B.b = some (.lst xs) := let ⟨_, _, _, _, h, _⟩ := j.bag; ⟨_, h⟩
    have nbP : B.b ≠ P := fun e => by
      obtain ⟨xs, h⟩ := bagb
      rw [e, hP] at h
      cases h
    have nbc : B.b ≠ c' := fun e => by
      obtain ⟨xs, h⟩ := bagb
      rw [e, hc] at h
      cases h
    have at1 : ∀ a, a ≠ P → a ≠ c' → upd (upd H P (.tbl ps')) c' (CodeO c' q) a = H a := fun a h1 h2 => by rw [upd_ne h2, upd_ne h1]
    have ex1 := Ex.new (o := CodeO c' q) gc
    have kp : ∀ a o, B.st a → H a = some o → upd (upd H P (.tbl ps')) c' (CodeO c' q) a = some o := fun a o s h => by
      rw [at1 a (fun e => s.2 _ hm e) (ne_of_none h hc)]
      exact h
    have old : ∀ a, Mu H a → upd G c' (CodeO c' q) a = G a := fun a m => upd_ne fun e => by subst e; exact m.ne hc
    refine ⟨upd G c' (CodeO c' q), ex1, kp, ⟨fun a o h => ?_, by rw [upd_ne nbc]; exact j.no, ?_, ?_⟩, old⟩
    · by_cases e : a = c'
      · subst e
        rw [upd_same] at h ⊢
        exact h
      · rw [upd_ne e] at h
        rw [at1 a (fun e2 => by rw [e2, gP] at h; cases h) e]
        exact j.ex a o h
    · obtain ⟨a, b, c, ns, h1, h2, h3⟩ := j.bag
      exact ⟨a, b, c, ns, by rw [at1 _ nbP nbc]; exact h1, ex_l ex1 h2, h3⟩
    · refine ⟨fun t h => ?_, fun u h => (j.xt.ex u h).trans ex1, fun u h a o s e => kp a o s (j.xt.keep u h a o s e), fun u h a m => ?_⟩
      · obtain ⟨⟨pt, y1, y2, y3⟩, y4⟩ := j.xt.tb t h
        have ntc : t.1 ≠ c' := ne_of_none y1 hc
        refine ⟨?_, by rw [upd_ne ntc]; exact y4⟩
        by_cases e : t.1 = P
        · have e2 := hu t h e
          rw [e, e2]
          refine ⟨ps', by rw [upd_ne nPc, upd_same], ht, fun pos cv z => ?_⟩
          rcases ha pos cv z with z | z
          · obtain ⟨c0, x1, x2⟩ := z3 pos cv z
            exact ⟨c0, x1, ex1 _ _ x2⟩
          · exact ⟨c', z, upd_same⟩
        · refine ⟨pt, by rw [at1 _ e ntc]; exact y1, y2, fun pos cv z => ?_⟩
          obtain ⟨c0, x1, x2⟩ := y3 pos cv z
          exact ⟨c0, x1, ex1 _ _ x2⟩
      · rw [old a (j.mu u h a m)]
        exact j.xt.old u h a m
end
end DL
namespace DL
open PySem PySem.Spec PyProof.Rows L2 Evl LamX
/-- B with its anchor at u -/
abbrev Bx.at (B : Bx) (u : Option (Hp × Hp)) : Bx := { B with up := u }
section
variable {K : PySem.W.Frag} {B B' : Bx} {G : Hp}
mutual
theorem Dat.cong (h1 : B'.b = B.b) (h2 : B'.ct = B.ct) : ∀ {v : V} {d : D}, Dat K B G v d → Dat K B' G v d
  | _, _, .non => .non
  | _, _, .bl b => .bl b
  | _, _, .int i => .int i
  | _, _, .str x => .str x
  | _, _, .lst h t => .lst h (Dats.cong h1 h2 t)
  | _, _, .tup h t => .tup h (Dats.cong h1 h2 t)
  | _, _, .ktup h t => .ktup h (Dats.cong h1 h2 t)
  | _, _, .dK h t => .dK h (DatK.cong h1 h2 t)
  | _, _, .dT h t => .dT h (DatT.cong h1 h2 t)
  | _, _, .bag => h1 ▸ .bag
  | _, _, .obj h h3 t => .obj (by rw [h2]; exact h) h3 (Dats.cong h1 h2 t)
theorem Dats.cong (h1 : B'.b = B.b) (h2 : B'.ct = B.ct) : ∀ {v : List V} {d : List D}, Dats K B G v d → Dats K B' G v d
  | _, _, .nil => .nil
  | _, _, .cons h t => .cons (Dat.cong h1 h2 h) (Dats.cong h1 h2 t)
theorem DatK.cong (h1 : B'.b = B.b) (h2 : B'.ct = B.ct) : ∀ {v : List (Key × V)} {d : List (D × D)}, DatK K B G v d → DatK K B' G v d
  | _, _, .nil => .nil
  | _, _, .consI h t => .consI (Dat.cong h1 h2 h) (DatK.cong h1 h2 t)
  | _, _, .consS h t => .consS (Dat.cong h1 h2 h) (DatK.cong h1 h2 t)
theorem DatT.cong (h1 : B'.b = B.b) (h2 : B'.ct = B.ct) : ∀ {v : List (List Key × V)} {d : List (D × D)}, DatT K B G v d → DatT K B' G v d
  | _, _, .nil => .nil
  | _, _, .cons h t => .cons (Dat.cong h1 h2 h) (DatT.cong h1 h2 t)
end
end
theorem Dat.toAt {K : PySem.W.Frag} {B : Bx} {G : Hp} {v : V} {d : D} (u : Option (Hp × Hp)) (h : Dat K B G v d) : Dat K (B.at u) G v d := Dat.cong (B := B) (B' := B.at u) rfl rfl h
section
variable {K : PySem.W.Frag} {B : Bx} {H0 G H G1 H1 G2 H2 : Hp} {σ : L2.St} {δ : DS}
/-- only plain data are known of the slots -/
def shD : Option SD → Option SD
  | some (.sh d) => some (.sh d)
  | _ => none
def shOnly (δ : DS) : DS := δ.map shD
theorem StOk.plain (u : Option (Hp × Hp)) (x : StOk K B H0 G H σ δ) : StOk K (B.at u) H G H σ (shOnly δ) := by
  obtain ⟨F, y⟩ := x.ex
  refine ⟨fun _ => [], ⟨by unfold shOnly; rw [List.length_map]; exact y.len, fun i ov od h1 h2 => ?_, fun i j _ _ _ p hp => nomatch hp⟩⟩
  unfold shOnly at h2
  rw [List.getElem?_map] at h2
  cases hd : δ[i]? with
  | none => rw [hd] at h2; cases h2
  | some od' =>
    rw [hd, Option.map_some] at h2
    have h2 := Option.some.inj h2
    subst h2
    have s := y.at_ i ov od' h1 hd
    generalize F i = f at s
    cases s with
    | no => exact .no
    | sh h => exact .sh (h.toAt u)
    | ow h n q => exact .no
    | nw n => exact .no
end
end DL
namespace DL
open PySem PySem.Spec PyProof.Rows L2 Evl LamX
end DL
namespace DL
open PySem PySem.Spec PyProof.Rows L2 Evl
end DL
namespace DL
open PySem PySem.Spec PyProof.Rows L2 Evl
end DL
namespace DL
open PySem PySem.Spec PyProof.Rows L2 NdefX
end DL
namespace DL
open PySem PySem.Spec PyProof.Rows L2 Evl LamX NdefX
end DL
namespace DL
open PySem PySem.Spec PyProof.Rows L2 Evl
section
variable {X : Cx} {B : Bx} {e : Expr} {r : DE} {pos : Pos} {C : Nat} {L : List Nat}
theorem call_isCA : CallR X (.builtin "isinstance") (fun xs H Q => (∃ u, SlX.rIsiSl X.K u xs H Q) ∨ rIsiD X.K xs H Q) := by
  intro pins s σ H xs us Q I r h
  rcases h with ⟨u, h⟩ | h
  · exact SlX.call_isiSl u pins s σ H xs us Q I r h
  · exact call_isiD pins s σ H xs us Q I r h
end
end DL
namespace DL
open PySem PySem.Spec PyProof.Rows L2 Evl
end DL
namespace DL
open PySem PySem.Spec PyProof.Rows L2 Evl
def obTs : List String := ["int", "bool", "str", "list", "tuple", "dict"]
structure ObjC (K : PySem.W.Frag) (C : Addr) : Prop where
  c : SlX.SCls K C
  si : SlX.SIsi K C
  kit : ∀ T ∈ obTs, PySem.W.kitOne K (.ref C) (.type T) = some false
def objB (K : PySem.W.Frag) (C1 : Addr) : Bool := PySem.W.plainGet K C1 Str.empty && (PySem.W.isClsIn K C1 && (PySem.W.plainOver K C1 && (decide (PySem.W.findIn K (.ref C1) "__setattr__" = some (some (.builtin "object.__setattr__"))) && (decide (PySem.W.findIn K (.ref C1) "__class__" = some (some (.builtin "object.__class__"))) &&
  (decide (PySem.W.specialIn K (.builtin "object.__class__") "__get__" = some (some (.builtin "getset_descriptor.__get__"))) && (decide (PySem.W.takesIn K (.builtin "object.__class__") = some true) && (decide (PySem.W.mroIn K C1 (.type "object") = some true) && (obTs.all fun T => decide (PySem.W.kitOne K (.ref C1) (.type T) = some false)))))))))
theorem objB_ok {K : PySem.W.Frag} {C1 : Addr} (h : objB K C1 = true) : ObjC K C1 := by
  obtain ⟨h1, h⟩ := Bool.and_eq_true_iff.mp h
  obtain ⟨h2, h⟩ := Bool.and_eq_true_iff.mp h
  obtain ⟨h3, h⟩ := Bool.and_eq_true_iff.mp h
  obtain ⟨h4, h⟩ := Bool.and_eq_true_iff.mp h
  obtain ⟨h5, h⟩ := Bool.and_eq_true_iff.mp h
  obtain ⟨h6, h⟩ := Bool.and_eq_true_iff.mp h
  obtain ⟨h7, h⟩ := Bool.and_eq_true_iff.mp h
  obtain ⟨h8, h9⟩ := Bool.and_eq_true_iff.mp h
  exact ⟨⟨h1, h2, h3, of_decide_eq_true h4⟩, ⟨of_decide_eq_true h5, of_decide_eq_true h6, of_decide_eq_true h7, of_decide_eq_true h8⟩, fun T hT => of_decide_eq_true (List.all_eq_true.mp h9 T hT)⟩
def isiA (T : String) (L : List Nat) (d : D) (Q : D → Prop) : Prop := match d with
  | .obj c _ => c ∈ L ∧ Q (.bl false)
  | d => pureD d = true ∧ Q (.bl (isi T d))
def dIsiA (T : String) (L : List Nat) (r : DE) : DE := fun δ Q => r δ fun d => isiA T L d Q
section
variable {T : String} {C c : Nat} {L : List Nat} {Q : D → Prop} {r : DE} {δ : DS} {fs xs : List D} {kvs : List (D × D)} {b : Bool} {i : Int} {x : Str}
theorem z_isiA : dIsiA T L r δ Q = r δ fun d => isiA T L d Q := propext Iff.rfl
theorem z_isiAo : isiA T L (.obj c fs) Q = (c ∈ L ∧ Q (.bl false)) := propext Iff.rfl
theorem z_isiAn : isiA T L .non Q = Q (.bl (isi T .non)) := propext ⟨fun h => h.2, fun h => ⟨rfl, h⟩⟩
theorem z_isiAb : isiA T L (.bl b) Q = Q (.bl (isi T (.bl b))) := propext ⟨fun h => h.2, fun h => ⟨rfl, h⟩⟩
theorem z_isiAi : isiA T L (.int i) Q = Q (.bl (isi T (.int i))) := propext ⟨fun h => h.2, fun h => ⟨rfl, h⟩⟩
theorem z_isiAs : isiA T L (.str x) Q = Q (.bl (isi T (.str x))) := propext ⟨fun h => h.2, fun h => ⟨rfl, h⟩⟩
theorem z_isiAl : isiA T L (.lst xs) Q = Q (.bl (isi T (.lst xs))) := propext ⟨fun h => h.2, fun h => ⟨rfl, h⟩⟩
theorem z_isiAt : isiA T L (.tup xs) Q = Q (.bl (isi T (.tup xs))) := propext ⟨fun h => h.2, fun h => ⟨rfl, h⟩⟩
theorem z_isiAd : isiA T L (.dic kvs) Q = Q (.bl (isi T (.dic kvs))) := propext ⟨fun h => h.2, fun h => ⟨rfl, h⟩⟩
end
section
variable {X : Cx} {B : Bx} {e : Expr} {r : DE} {pos : Pos} {L : List Nat}
theorem pd_isiA {T : String} {tn : Str} {p q : Pos} (kn : knownTy T) (hT : T ∈ obTs) (ho : ∀ c ∈ L, ObjC X.K (B.ct c)) (hg : Gl X "isinstance") (hm : X.mg "isinstance" = none) (hgT : Gl X tn) (hmT : X.mg tn = none) (hvT : bootBuiltins tn = some (.type T)) (he : PD X B e r) (hn : tn ≠ "__name__" := by decide) (hdb : (tn == ("__debug__" : Str)) = false := by decide)
    (hs1 : starEach [e, .Name tn q] X.env = (false, eval e X.env) :: starEach [.Name tn q] X.env := by rfl) (hs2 : starEach [.Name tn q] X.env = (false, eval (.Name tn q) X.env) :: starEach [] X.env := by rfl) (hpl : (backTo pos (starEach [.Name tn q] X.env)).any (·.1) = false := by rfl) :
    PD X B (.Call (.Name "isinstance" p) [e, .Name tn q] [] pos) (dIsiA T L r) := pe_mono (pe_callB call_isCA hg hm (by decide +kernel) (pa_cons he (pa_cons (pe_bltn (v := .ty T) hgT hmT hvT rfl hn hdb) pa_nil hs2) hs1) (by decide) (by decide) hs1 hpl) fun σ H P q => by
  obtain ⟨H0, G, δ, Q, j, st, hr, k⟩ := q
  refine ⟨H0, G, δ, _, j, st, hr, fun d v G2 H2 q2 g2 h2 => ?_⟩
  have pure_ : pureD d = true ∧ Q (.bl (isi T d)) → (∃ u, SlX.rIsiSl X.K u [v, .ty T] H2 P) ∨ rIsiD X.K [v, .ty T] H2 P := fun ⟨hp, q3⟩ =>
    .inr ⟨v, .ty T, _, .type T, _, rfl, .ty T, ty_d g2.j.ex h2 hp, kit_ty (kn d hp), k _ _ G2 H2 q3 g2 (.bl _)⟩
  cases h2 with
  | @obj a dx c' vs fs h3 h4 h5 =>
    obtain ⟨hm, q3⟩ := q2
    have oc := ho _ hm
    exact .inl ⟨.type T, a, _, dx, _, .ty T, false, rfl, rfl, fun w hw => hw, .inr ⟨g2.j.ex _ _ h3, g2.j.ex _ _ h4⟩, oc.c, oc.si, oc.kit _ hT, k _ _ G2 H2 q3 g2 (.bl _)⟩
  | _ => exact pure_ q2
end
end DL
namespace DL
open PySem PySem.Spec PyProof.Rows L2 Evl PySem.W
end DL
namespace DL
open PySem PySem.Spec PyProof.Rows L2 Evl
end DL
namespace DL
open PySem PySem.Spec PyProof.Rows L2 LamX
end DL
namespace DL
open PySem PySem.Spec PyProof.Rows L2 Evl
section
variable {K : PySem.W.Frag} {B : Bx} {G H G2 H2 H3 : Hp}
inductive PrK (K : PySem.W.Frag) (B : Bx) (G H : Hp) : List Addr → List (Key × V) → List (D × OD) → Prop
  | nil : PrK K B G H [] [] []
  | cons {t : Addr} {k : Key} {v : V} {d : D} {ts : List Addr} {kvs : List (Key × V)} {os : List (D × OD)} : H t = some (.tup [kV k, v]) → Dat K B G v d → PrK K B G H ts kvs os → PrK K B G H (t :: ts) ((k, v) :: kvs) ((embK k, .sh d) :: os)
theorem PrK.keep (e : Ex G G2) (hk : ∀ a o, H a = some (.tup o) → H2 a = some (.tup o)) : ∀ {ts : List Addr} {kvs : List (Key × V)} {os : List (D × OD)}, PrK K B G H ts kvs os → PrK K B G2 H2 ts kvs os
  | _, _, _, .nil => .nil
  | _, _, _, .cons h1 h2 t => .cons (hk _ _ h1) (h2.mono e) (PrK.keep e hk t)
theorem PrK.gr {ts : List Addr} {kvs : List (Key × V)} {os : List (D × OD)} (j : Jn K B G H) (h : PrK K B G H ts kvs os) (g : Gr K B G H G2 H2) : PrK K B G2 H2 ts kvs os := h.keep g.ex (g.keepT j)
theorem PrK.append : ∀ {ts us : List Addr} {kvs lvs : List (Key × V)} {os ps : List (D × OD)}, PrK K B G H ts kvs os → PrK K B G H us lvs ps → PrK K B G H (ts ++ us) (kvs ++ lvs) (os ++ ps)
  | _, _, _, _, _, _, .nil, h => h
  | _, _, _, _, _, _, .cons h1 h2 t, h => .cons h1 h2 (t.append h)
theorem PrK.len : ∀ {ts : List Addr} {kvs : List (Key × V)} {os : List (D × OD)}, PrK K B G H ts kvs os → ts.length = os.length
  | _, _, _, .nil => rfl
  | _, _, _, .cons _ _ t => by rw [List.length_cons, List.length_cons, t.len]
end
end DL
namespace L2
open PySem PySem.Spec PyProof.Rows
end L2
namespace DL
open PySem PySem.Spec PyProof.Rows L2 Evl
end DL
namespace DL
open PySem PySem.Spec PyProof.Rows L2 Evl
section
variable {X : Cx} {B : Bx} {pins : List (Addr × Obj)} {σ : L2.St} {H : Hp} {s : Shared} {A1 : Around} {n : Nat} {f : Addr} {sp : Sp}
/-- the callee runs, wherever -/
theorem run_fnA {us : List Value} {vs : List V} {Q : VK} (F : FnR X.prog X.w X.K X.mg X.base CX0 n f sp) (sb : Sub X n A1) (I : Inv X pins σ H s) (r : Vals vs us) (h : sp vs H Q E0) :
    codeAny (model X.prog X.w) A1 (.call (.ref f) ⟨us, []⟩) (fun r s' => match r with | .ok (.ret v) => EP X pins σ Q v s' | .ok _ => False | .error _ => False) s := by
  have e := I.env0
  have e0 : Env0 X.prog X.w X.K X.mg X.base A1 X.stack s H := ⟨by rw [sb.fr]; exact e.frames, e.mod, e.bs, e.bsz, e.funs, e.frf, e.hok, e.bare⟩
  refine codeAny_mono (F A1 X.stack s H us vs Q E0 sb.room e0 r h) fun r s' hq => ?_
  cases r with
  | error e => exact False.elim hq
  | ok fl =>
    cases fl with
    | ret u => exact I.after hq
    | next => exact False.elim hq
    | brk => exact False.elim hq
    | cont => exact False.elim hq
theorem call_fnA {us : List Value} {vs : List V} {Q : VK} {E : Value → Shared → Prop} (F : FnR X.prog X.w X.K X.mg X.base CX0 n f sp) (sb : Sub X n A1) (I : Inv X pins σ H s) (r : Vals vs us) (h : sp vs H Q E0) :
    wpAny (model X.prog X.w) A1 (call (.ref f) us) (EP X pins σ Q) E s := by
  refine wpAny_call (codeAny_mono (run_fnA F sb I r h) fun r s' hq => ?_)
  cases r with
  | error e => exact False.elim hq
  | ok fl =>
    cases fl with
    | ret u => exact hq
    | next => exact hq
    | brk => exact hq
    | cont => exact hq
/-- what len() wants of the answer -/
def lenW (Q : VK) : VK := fun z H => ∃ m : Int, z = .int m ∧ (0 ≤ m ∧ m < 2 ^ 63) ∧ Q (.int m) H
theorem len_at {C dx a : Addr} {ws : List (Option V)} {Q : VK} {E : Value → Shared → Prop} (hs : PySem.W.findIn X.K (.ref C) "__len__" = some (some (.ref f))) (hf : PySem.W.isFn X.K (.ref f) = true)
    (F : FnR X.prog X.w X.K X.mg X.base CX0 n f sp) (sb : Sub X n A1.in1) (I : Inv X pins σ H s) (ha : SlX.Slt H a C dx ws) (h : sp [.ref a] H (lenW Q) E0) :
    wpAny (model X.prog X.w) A1 (call (.builtin "len") [.ref a]) (EP X pins σ Q) E s := by
  obtain ⟨sl, od, _, J, _⟩ := SlX.slt_inst I ha
  obtain ⟨mm, hF⟩ := I.fr
  refine PySem.W.len_K hF I.ok.mod.kin J hs hf ?_
  refine wpAny_mono (call_fnA (E := E) F sb I (us := [.ref a]) (vs := [V.ref a]) (.cons rfl .nil) h) (fun v s' z => ?_) fun _ _ z => z
  obtain ⟨z, H', I', rz, m, rfl, hm, q⟩ := z
  obtain ⟨t, rfl⟩ := (show ∃ t, v = Value.int m t from rz)
  exact ⟨hm, .int m, H', I'.tok _, ⟨_, rfl⟩, q⟩
end
section
variable {X : Cx} {B : Bx} {C k : Nat} {g : Addr} {S : FD}
/-- len(o) of an instance -/
def lenQ (Q : D → Prop) (d : D) : Prop := match d with
  | .int m => (0 ≤ m ∧ m < 2 ^ 63) ∧ Q (.int m)
  | _ => False
def cLenO (C : Nat) (S : FD) : FD := fun ds Q => match ds with
  | [x] => isO C x ∧ S [x] (lenQ Q)
  | _ => False
theorem call_lenO (hs : PySem.W.findIn X.K (.ref (B.ct C)) "__len__" = some (some (.ref g))) (hf : PySem.W.isFn X.K (.ref g) = true) (F : FnR X.prog X.w X.K X.mg X.base CX0 k g (spD X.K B S)) (hr : Room (k + 1) X.A) :
    CallR X (.builtin "len") (cLift X.K B (cLenO C S)) := by
  intro pins s σ H xs us P I rv h
  obtain ⟨G, ds, Q, j, hd, hS, kk⟩ := h
  cases hd with
  | nil => exact hS.elim
  | cons hx ht =>
    cases ht with
    | cons _ _ => exact hS.elim
    | nil =>
      obtain ⟨o1, hS⟩ := hS
      cases hx with
      | @obj a d1 C1 vs fs h3 h4 h5 =>
        have o1 : C1 = C := o1
        subst o1
        obtain ⟨u, rfl, ru⟩ := vals1 rv
        cases (show u = Value.ref a from ru)
        have sb : Sub X k X.A.in1 := Sub.in1 ⟨hr, rfl⟩
        refine len_at (E := X.xe) hs hf F sb I (obj_slt (K := X.K) (B := B) j.ex h3 h4) ⟨G, _, _, j, .cons (.obj h3 h4 h5) .nil, hS, fun d v G2 H2 q2 g2 d2 => ?_⟩
        cases d2 with
        | int m => exact ⟨m, rfl, q2.1, kk _ _ G2 H2 q2.2 g2 (.int m)⟩
        | _ => exact q2.elim
      | _ => exact o1.elim
end
def seqK (d : D) : D := match d with
  | .ktup xs => .tup xs
  | d => d
theorem ty_k {K : PySem.W.Frag} {G H : Hp} {v : V} {d : D} (e : Ex G H) (h : Dat K B G v d) (p : pureD (seqK d) = true) : TyY K H v (tyN (seqK d)) := by
  cases h with
  | ktup h t =>
    rcases ex_t e h with r | ⟨o, its, m, l, c, dd, _⟩
    · rcases r with r | ⟨o, r⟩
      · exact .inl (.base (.tup r))
      · exact .inl (.fTuple r)
    · exact .inl (.kTuple l c)
  | non => exact .inl (.base .non)
  | bl b => exact .inl (.base (.bl b))
  | int i => exact .inl (.base (.int i))
  | str x => exact .inl (.base (.str x))
  | lst h t => exact ty_d e (.lst h t) p
  | tup h t => exact ty_d e (.tup h t) p
  | dK h t => exact ty_d e (.dK h t) p
  | dT h t => exact ty_d e (.dT h t) p
  | bag => cases p
  | obj _ _ _ => cases p
def isi2 (T U : String) (d : D) : Bool := isi T (seqK d) || isi U (seqK d)
def rIsi2 (K : PySem.W.Frag) : List V → Hp → VK → Prop := fun xs H Q => ∃ (x : V) (tp : Addr) (cs : List V) (T : String) (us : List Value) (b : Bool), xs = [x, .ref tp] ∧ H tp = some (.tup cs) ∧ Paired ClsV cs us ∧ TyY K H x T ∧ PySem.W.kitAny K (.type T) us = some b ∧ Q (.bl b) H
theorem call_isi2 {X : Cx} : CallR X (.builtin "isinstance") (rIsi2 X.K) := by
  intro pins s σ H xs us Q I r h
  obtain ⟨x, tp, cs, T, ws, b, rfl, hT, k, ty, e, q⟩ := h
  rcases ty with ty | ⟨a, od, kvs, rfl, ha, rfl⟩
  · exact call_isiT pins s σ H _ us Q I r ⟨x, tp, cs, _, ws, b, rfl, hT, k, ty, e, q⟩
  · obtain ⟨u1, u2, rfl, r1, r2⟩ := vals2 r
    cases (show u2 = Value.ref tp from r2)
    cases (show u1 = Value.ref a from r1)
    obtain ⟨_, _, _, _, _, o, es, ep, h1, h2, _⟩ := (show ObjOk X.prog X.w H s.heap a (.frz od (.dT kvs)) from I.hok a _ ha)
    obtain ⟨_, its, rv, o2, g1, g2, n, g3⟩ := (show ObjOk X.prog X.w H s.heap tp (.tup cs) from I.hok tp _ hT)
    have e3 := ClsV.all k rv
    subst e3
    obtain ⟨oc, od2, dt, sl⟩ := o2
    simp only at g2 g3
    subst g2 g3
    exact PySem.W.kia_tup PySem.W.kitx_dict I.kIn ⟨o, h1, h2.1⟩ g1 e (fun z => nomatch z) fun tk => ⟨.bl b, H, I.tok tk, rfl, q⟩
theorem kit2 {K : PySem.W.Frag} {a T U : String} {x y : Bool} (h1 : kitB a T = some x) (h2 : kitB a U = some y) : PySem.W.kitAny K (.type a) [.type T, .type U] = some (x || y) := by
  refine kitAny_cons (b := x) (kit_ty h1) (fun hx => ?_) (fun hx => by rw [hx]; rfl)
  subst hx
  refine kitAny_cons (b := y) (kit_ty h2) (fun hy => ?_) (fun hy => by rw [hy]; rfl)
  subst hy
  exact kitAny_nil
structure InAtD (K : PySem.W.Frag) (x qual : Str) (st : Stmt) (ps : List Str) where
  f : Addr
  fd : FuncData
  a : Addr
  fn : FunD K x qual (defArgs st) (defBody st) (defScope st) [.ref a] [] f fd
  tu : ∀ G, SqT K G a []
  bd : Binds K fd ps []
  bd1 : ∃ ds, Vals [.ref a] ds ∧ Binds K fd ps ds
section
variable {P : Program} {w : World} {K : PySem.W.Frag} {mg : Str → Option Value} {base : Heap}
theorem fn_initD {x qual : Str} {st : Stmt} {f a : Addr} {fd : FuncData} {N ps : List Str} {k : Nat} {B : Bx} {C : Nat} {S : FI} {t : DTS} (F : FunD K x qual (defArgs st) (defBody st) (defScope st) [.ref a] [] f fd) (Sc : FnScope N ps (defScope st)) (len : ∀ ds Q, S ds Q → ds.length + 1 = ps.length) (hN : 1 ≤ N.length)
    (hbody : ∀ (cdv : Value) (A : Around) (outer : List Env) (s : Shared) (H : Hp) (E : XK), Room k (A.deeper (envOfC qual (defScope st) s.heap.objs.size f cdv)) → PSsD (cxOf CX0 P w K mg base N qual (defScope st) f cdv A outer s H E).nox B (defBody st) t)
    (vc : ∀ x ds Q, S ds Q → t (endI x C Q) (startI N.length x C ds)) : FnOk P w K mg base CX0 (k + 1) f fd ps (spI K B C S) := by
  refine F.ok Sc (fun vs H Q E h => ?_) (fun cdv A outer s H vs Q E hr h => ⟨_, (hbody cdv A outer s H E hr).nox, init_lift hN vc h⟩)
  obtain ⟨x, dx, ws, G, ds, R, rfl, _, _, _, _, _, _, _, _, hd, hs, _⟩ := h
  rw [List.length_cons, hd.len]
  exact len ds R hs
theorem ex_initD {qual : Str} {st : Stmt} {ps : List Str} {f C T : Addr} {oc : Value} {od an : Option Addr} {osl : Array (Option Value)} {kV doc pm cdv ct : Value} {oT : Obj} {aT : Addr} {n m : Nat} {nT : Nat}
    (h2 : ∀ (T : Addr) (kV doc pm : Value) (an : Option Addr) (cdv ct : Value) (us its : List Value), us.length = m + 1 → its.length = 1 →
      ∃ k, bindArgs (PySem.W.fnOf "__init__" qual (defArgs st) (defBody st) (defScope st) (.ref T) kV doc pm an cdv ct) ⟨us, []⟩ = seqItems? (.ref T) >>= k ∧ k (some its.toArray) = pure (ps.zip (us ++ its.drop 1)))
    (h1 : ∀ (T : Addr) (kV doc pm : Value) (an : Option Addr) (cdv ct : Value) (us its : List Value), us.length = m → its.length = 1 →
      ∃ k, bindArgs (PySem.W.fnOf "__init__" qual (defArgs st) (defBody st) (defScope st) (.ref T) kV doc pm an cdv ct) ⟨us, []⟩ = seqItems? (.ref T) >>= k ∧ k (some its.toArray) = pure (ps.zip (us ++ its.drop 0)))
    (hm : m + 1 = ps.length)
    (a : PySem.W.findIn K (.ref C) "__init__" = some (some (.ref f))) (i : PySem.W.isFn K (.ref f) = true) (l : K.lookup f = some ⟨oc, od, .func (PySem.W.fnOf "__init__" qual (defArgs st) (defBody st) (defScope st) (.ref T) kV doc pm an cdv ct), osl⟩) (c : PySem.W.codeIn K cdv qual = true) (k : PySem.W.keepIn K (.ref f) = true)
    (lT : K.lookup T = some oT) (dT : oT.data = .seq #[.ref aT] nT) {oe : Obj} {ne : Nat} (le : K.lookup aT = some oe) (ce : oe.cls = .type "tuple") (de : oe.data = .seq #[] ne)
    (mk : PySem.W.makesIn K C = true) (kc : PySem.W.keepIn K (.ref C) = true) :
    ∃ t : InAtD K "__init__" qual st ps, Mk K C t.f := by
  have F : FunD K "__init__" qual (defArgs st) (defBody st) (defScope st) [V.ref aT] [] f _ := ⟨⟨oc, od, .ref T, kV, doc, pm, an, cdv, ct, osl, rfl, l, c, .inr ⟨by simp, T, oT, [.ref aT], nT, rfl, lT, dT, .cons rfl .nil⟩, .inl rfl⟩, k⟩
  have b0 := F.binds1 (m + 1) 1 (by simp) (by simp; omega) h2
  have b1 := F.binds1 m 0 (by simp) (by simp; omega) h1
  obtain ⟨ds, hv, hb⟩ := b0
  cases hv
  exact ⟨⟨f, _, aT, F, fun G => .inr ⟨oe, #[], ne, le, ce, de, Nat.zero_le _, .nil⟩, hb, b1⟩, mk, a, i, kc⟩
end
/-- the default in its place -/
def dflI (S : FI) : FI := fun ds Q => S (ds ++ [.ktup []]) Q
theorem fn_r0 {P : Program} {w : World} {K : PySem.W.Frag} {mg : Str → Option Value} {base : Heap} {k C : Nat} {B : Bx} {S : FI} {x qual : Str} {st : Stmt} {ps : List Str} (T : InAtD K x qual st ps) (F : FnOk P w K mg base CX0 k T.f T.fd ps (spI K B C S)) : FnR P w K mg base CX0 k T.f (spI K B C (dflI S)) := by
  obtain ⟨ds, hv, hb⟩ := T.bd1
  refine (F.raw hb hv).imp fun vs H P E h => ?_
  obtain ⟨y, dx, ws, G, es, Q, rfl, h1, h2, h3, h4, h5, h6, h7, h8, h9, h10, h11⟩ := h
  have h10 : S (es ++ [.ktup []]) Q := h10
  exact ⟨y, dx, ws ++ [.ref T.a], G, es ++ [.ktup []], Q, rfl, h1, h2, h3, h4, h5, h6, h7, h8, h9.append (.cons (.ktup (T.tu G) .nil) .nil), h10, h11⟩
theorem pe_makeR0 {X : Cx} {CX : CXT} {k : Nat} {f C : Addr} {sp : Sp} {E : XK} {x : Str} {p pos : Pos} (M : Mk X.K C f) (F : FnR X.prog X.w X.K X.mg X.base CX k f sp) (hr : Room (k + 1) X.A) (hg : Gl X x) (hm : X.mg x = some (.ref C)) (hx : Passes CX X E) (hdb : (x == ("__debug__" : Str)) = false := by decide) :
    PE X (.Call (.Name x p) [] [] pos) (StX.tMakeR C sp E tNil) := by
  refine ⟨fun pins s σ H Q I h => ?_⟩
  refine wpAny_Call_Name_kw (ld_glob I hg hm ?_ hdb)
  exact PySem.W.callWith_K0 I.kIn M.kp (StX.run_makeR (us := []) M F hr hx I .nil h)
section
variable {X : Cx} {B : Bx} {pos : Pos} {g : Addr} {k C : Nat} {x : Str} {S : FI}
theorem pd_make0 {fp : Pos} (M : Mk X.K (B.ct C) g) (F : FnR X.prog X.w X.K X.mg X.base CX0 k g (spI X.K B C S)) (hr : Room (k + 1) X.A) (hg : Gl X x) (hm : X.mg x = some (.ref (B.ct C))) (hdb : (x == ("__debug__" : Str)) = false := by decide) :
    PD X B (.Call (.Name x fp) [] [] pos) (dMake C S dNil) := pe_mono (pe_makeR0 (E := E0) M F hr hg hm pass0 hdb) fun σ H P q => by
  obtain ⟨H0, G, δ, Q, j, st, q2, k⟩ := q
  have q2 : S [] fun fs => Q (.obj C fs) := q2
  have g2 := Gr.refl j
  show ∀ y dx, H y = none → H dx = none → dx ≠ y → _
  intro y dx hy hdx ne
  have gy : G y = none := fresh_back g2.j.ex hy
  have gd : G dx = none := fresh_back g2.j.ex hdx
  have j1 : Jn X.K B G (upd (upd H dx (.own y)) y (.ins (B.ct C) dx [])) := by
    have a := Gr.new0 (o := .own y) g2.j hdx
    exact (Gr.new0 (o := .ins (B.ct C) dx []) a.j (by rw [upd_ne (Ne.symm ne)]; exact hy)).j
  have eh : hid2 (upd (upd H dx (.own y)) y (.ins (B.ct C) dx [])) y dx = H := by
    funext b
    unfold hid2
    by_cases h1 : b = y
    · subst h1; rw [if_pos (.inl rfl), hy]
    · by_cases h3 : b = dx
      · subst h3; rw [if_pos (.inr rfl), hdx]
      · rw [if_neg (fun z => z.elim h1 h3), upd_ne h1, upd_ne h3]
  refine ⟨y, dx, [], G, [], _, rfl, upd_same, by rw [upd_ne ne, upd_same], ne, gy, gd, j1, Gr.neB g2.j hy, Gr.neB g2.j hdx, .nil, q2, fun fs us dy G3 H3 q3 g3 z1 z2 z3 z4 z5 z6 z7 z8 => ⟨rfl, ?_⟩⟩
  rw [eh] at g3 z6
  have g4 := g3.frz (p := dy) z6 z5 z7 z2
  have g5 := g4.frz (p := y) hy (by rw [upd_ne (Ne.symm z3)]; exact z4) (Gr.neB g2.j hy) z1
  have e5 : Ex G3 (upd (upd G3 dy (.xd [])) y (SlX.SlO y (B.ct C) dy (us.map some))) := (Ex.new z5).trans (Ex.new (by rw [upd_ne (Ne.symm z3)]; exact z4))
  exact k _ _ _ _ q3 (g2.trans g5) (.obj upd_same (by rw [upd_ne z3, upd_same]) (z8.mono e5))
end
end DL
namespace DL
open PySem PySem.Spec PyProof.Rows L2 Evl
section
variable {prog : Program} {w : World} {A : Around} {E : Value → Shared → Prop} {s : Shared} {it l : Addr} {i : Nat} {items : Array Value} {Q : Option Value → Shared → Prop}
theorem next_itemG {x : Value} (ho : s.heap.get? it = some (GNX.itObj l i)) (hl : s.heap.IsList l items) (hx : items[i]? = some x)
    (hQ : ∀ h', h'.get? it = some (GNX.itObj l (i + 1)) → Heap.SameBut it s.heap h' → Q (some x) { s with heap := h' }) : wpAny (model prog w) A (pyNext (.ref it)) Q E s := by
  have hT : s.TypeIs (.ref it) "list_iterator" := ⟨_, ho, rfl⟩
  unfold pyNext
  refine wpAny_bind (wpAny_attempt (wpAny_callSpecial?_slot (name := Str.ofString "__next__") hT slot_listiter_next (wpAny_call_entry slot_listiter_next hT entry_listiter_next ?_ (args_listiter_next _))))
  exact GNX.next_item ho hl hx fun h' e' sb => wpAny_pure (hQ h' e' sb)
theorem next_endG (hh : A.handled = none) (ho : s.heap.get? it = some (GNX.itObj l i)) (hl : s.heap.IsList l items) (hx : items[i]? = none)
    (hQ : ∀ h1 h', h1.get? it = some (GNX.itEnd i) → Heap.SameBut it s.heap h1 → (∀ b o, h1.get? b = some o → h'.get? b = some o) → Q none { s with heap := h' }) : wpAny (model prog w) A (pyNext (.ref it)) Q E s := by
  have hT : s.TypeIs (.ref it) "list_iterator" := ⟨_, ho, rfl⟩
  unfold pyNext
  refine wpAny_bind (wpAny_attempt (wpAny_callSpecial?_slot (name := Str.ofString "__next__") hT slot_listiter_next (wpAny_call_entry slot_listiter_next hT entry_listiter_next ?_ (args_listiter_next _))))
  refine GNX.next_end (A := A) hh ho hl hx fun h1 h' e vs e1 sb k ne he hv => ?_
  refine wpAny_bind (wpAny_isInstance (T := "StopIteration") (b := true) ⟨_, he, rfl⟩ isSubtype_stop ?_)
  exact wpAny_pure (hQ h1 h' e1 sb k)
end
theorem sql_ne {K : PySem.W.Frag} {H : Hp} {l p : Addr} {o : HO} {xs : List V} (h : SqL K H l xs) (n : l ≠ p) : SqL K (upd H p o) l xs := by
  unfold SqL Rd at h ⊢
  simp only [upd_ne n]
  exact h
theorem upd_id {H : Hp} {p : Addr} {o : HO} (h : H p = some o) : upd H p o = H := by
  funext b
  by_cases hb : b = p
  · rw [hb, upd_same, h]
  · rw [upd_ne hb]
theorem upd_swap {H : Hp} {p q : Addr} {o u : HO} (n : p ≠ q) : upd (upd H p o) q u = upd (upd H q u) p o := by
  funext b
  by_cases hb : b = p
  · subst hb
    rw [upd_ne n, upd_same, upd_same]
  · by_cases hc : b = q
    · subst hc
      rw [upd_same, upd_ne hb, upd_same]
    · rw [upd_ne hc, upd_ne hb, upd_ne hb, upd_ne hc]
section
variable {X : Cx} {B : Bx} {pins : List (Addr × Obj)} {σ : L2.St} {H H0 : Hp} {s : Shared} {A1 : Around} {n : Nat} {f : Addr} {sp : Sp}
theorem lit_loop {l it q : Addr} {xs : List V} {res : Value} {Rs : Result → Shared → Prop} (hh : A1.handled = none) (hz : xs.length ≤ sizeLine) (n1 : it ≠ q) (n2 : l ≠ it) (n3 : l ≠ q) (hl0 : SqL X.K H0 l xs)
    (hd : ∀ s, Inv X pins σ (upd (upd H0 q (.lst xs)) it (ItE it xs.length)) s → Rs (.ok (.ret res)) s) :
    ∀ (m i : Nat) (s : Shared), m + i = xs.length → Inv X pins σ (upd (upd H0 q (.lst (xs.take i))) it (ItO l it i)) s → codeAny (model X.prog X.w) A1 (.builtin "list.extend.loop" ⟨[.ref q, .ref it, res], []⟩) Rs s := by
  intro m
  induction m with
  | zero =>
    intro i s hi I
    refine codeAny_builtin PySem.F.entry_extend_loop ?_
    rw [Around.under_plainId PySem.F.plain_extend_loop _]
    show wpAny _ A1.in1 (pyNext (.ref it) >>= _) _ _ s
    have hi : i = xs.length := by omega
    subst hi
    have hl : SqL X.K (upd (upd H0 q (.lst (xs.take xs.length))) it (ItO l it xs.length)) l xs := sql_ne (sql_ne hl0 n3) n2
    have hit : upd (upd H0 q (.lst (xs.take xs.length))) it (ItO l it xs.length) it = some (ItO l it xs.length) := upd_same
    obtain ⟨its, rv, pl, _⟩ := I.list hl
    refine wpAny_bind (next_endG (A := A1.in1) hh (itO_get I hit) pl.isList (by rw [List.getElem?_toArray]; exact rv.none_of (List.getElem?_eq_none (Nat.le_refl _))) fun h1 h' e1 sb k => ?_)
    have mu : Mut (upd (upd H0 q (.lst (xs.take xs.length))) it (ItO l it xs.length) it) := by rw [hit]; exact True.intro
    have I2 : Inv X pins σ (upd (upd (upd H0 q (.lst (xs.take xs.length))) it (ItO l it xs.length)) it (ItE it xs.length)) { s with heap := h1 } := I.write (x := it) (e := it) (t' := s.toks) mu (.inl rfl) (fun b o nb z => (sb.2 b nb).trans z) ⟨_, e1⟩ (itE_ok e1)
    rw [upd_upd, List.take_length] at I2
    exact wpAny_pure (hd _ (I2.kept (t' := s.toks) k))
  | succ m ih =>
    intro i s hi I
    refine codeAny_builtin PySem.F.entry_extend_loop ?_
    rw [Around.under_plainId PySem.F.plain_extend_loop _]
    show wpAny _ A1.in1 (pyNext (.ref it) >>= _) _ _ s
    have hl : SqL X.K (upd (upd H0 q (.lst (xs.take i))) it (ItO l it i)) l xs := sql_ne (sql_ne hl0 n3) n2
    have hit : upd (upd H0 q (.lst (xs.take i))) it (ItO l it i) it = some (ItO l it i) := upd_same
    obtain ⟨its, rv, pl, _⟩ := I.list hl
    have hlt : i < xs.length := by omega
    obtain ⟨w', hw, rw'⟩ := rv.get (List.getElem?_eq_getElem hlt)
    refine wpAny_bind (next_itemG (A := A1.in1) (itO_get I hit) pl.isList (by rw [List.getElem?_toArray]; exact hw) fun h' e' sb => ?_)
    have mu : Mut (upd (upd H0 q (.lst (xs.take i))) it (ItO l it i) it) := by rw [hit]; exact True.intro
    have I2 : Inv X pins σ (upd (upd (upd H0 q (.lst (xs.take i))) it (ItO l it i)) it (ItO l it (i + 1))) { s with heap := h' } := I.write (x := it) (e := it) (t' := s.toks) mu (.inl rfl) (fun b o nb z => (sb.2 b nb).trans z) ⟨_, e'⟩ (itO_ok e')
    rw [upd_upd] at I2
    have hq : upd (upd H0 q (.lst (xs.take i))) it (ItO l it (i + 1)) q = some (.lst (xs.take i)) := by rw [upd_ne (Ne.symm n1), upd_same]
    show wpAny _ A1.in1 (updateSeq q (·.push w') >>= _) _ _ _
    obtain ⟨z, its2, k, r2, hl2, e⟩ := I2.lstM hq
    have hlen : (xs.take i).length = i := by rw [List.length_take]; omega
    refine wpAny_bind (wpAny_updateSeq e rfl (wpAny_pure ⟨plainId_quiet PySem.F.plain_extend_loop _, ?_⟩) (by rw [List.size_toArray]; omega) (by show (its2.toArray.push w').size ≤ sizeLine + 1; rw [Array.size_push, List.size_toArray]; omega))
    have I3 := I2.lset (f := (·.push w')) (its' := its2 ++ [w']) (ys := xs.take i ++ [xs[i]]) (t' := s.toks) hq e (by simp) (r2.append (.cons rw' .nil)) (by rw [List.length_append, List.length_singleton]; omega)
    rw [← upd_swap n1, upd_swap n1, upd_swap n1, upd_upd, upd_swap (Ne.symm n1), upd_swap n1] at I3
    refine ih (i + 1) _ (by omega) ?_
    rw [show xs.take (i + 1) = xs.take i ++ [xs[i]] from List.take_succ_eq_append_getElem hlt]
    exact I3
theorem hint_own {a C dx : Addr} {ws : List (Option V)} {R : Hp → Prop} {Qb : Bool → Shared → Prop} {E : Value → Shared → Prop} (hs : PySem.W.findIn X.K (.ref C) "__len__" = some (some (.ref f))) (hf : PySem.W.isFn X.K (.ref f) = true)
    (F : FnR X.prog X.w X.K X.mg X.base CX0 n f sp) (sb : Sub X n A1.in1) (I : Inv X pins σ H s) (ha : SlX.Slt H a C dx ws) (h : sp [.ref a] H (lenW fun z H' => (∃ m : Int, z = .int m ∧ m.toNat ≤ sizeLine) ∧ R H') E0)
    (hQ : ∀ b H' s', Inv X pins σ H' s' → R H' → Qb b s') : wpAny (model X.prog X.w) A1 (Builtin.List.listLengthHint (.ref a)) Qb E s := by
  obtain ⟨sl, od, _, J, _⟩ := SlX.slt_inst I ha
  unfold Builtin.List.listLengthHint
  refine wpAny_bind (wpAny_bind (J.type.here ((PySem.W.looks_findIn I.kIn hs).here ?_)))
  refine PySem.W.KFB.if_not rfl ?_
  refine PySem.W.KFB.if_so rfl ?_
  refine wpAny_bind (wpAny_rule ?_)
  refine wpAny_bind (wpAny_attempt (wpAny_mono (len_at (E := fun _ _ => False) hs hf F sb I ha h) (fun v s' z => ?_) fun _ _ z => z.elim))
  obtain ⟨z, H', I', rz, ⟨m, rfl, hm⟩, q⟩ := z
  obtain ⟨t, rfl⟩ := (show ∃ t, v = Value.int m t from rz)
  refine wpAny_bind (wpAny_of_eq (a := some m) (by first | rfl | kernel_rfl) ?_)
  show wpAny _ _ (if Builtin.List.listTooLong m.toNat = true then _ else _) _ _ _
  rw [if_neg (by rw [notLongL hm]; simp)]
  exact wpAny_pure (hQ _ H' s' I' q)
theorem ext_own {a q dx C fi fl : Addr} {ws : List (Option V)} {spI spL : Sp} {res : Value} {P : List V → Hp → Prop} {Rs : Result → Shared → Prop}
    (hi : PySem.W.findIn X.K (.ref C) "__iter__" = some (some (.ref fi))) (hif : PySem.W.isFn X.K (.ref fi) = true) (hl : PySem.W.findIn X.K (.ref C) "__len__" = some (some (.ref fl))) (hlf : PySem.W.isFn X.K (.ref fl) = true)
    (FI : FnR X.prog X.w X.K X.mg X.base CX0 n fi spI) (FL : FnR X.prog X.w X.K X.mg X.base CX0 n fl spL) (sb1 : Sub X n A1.in1) (sb : Sub X n A1.in1.in1) (hh : A1.handled = none) (I : Inv X pins σ H s) (ha : SlX.Slt H a C dx ws) (hq : H q = some (.lst [])) (nq : q ≠ a)
    (hsp : spI [.ref a] H (fun v H1 => ∃ it l xs, v = .ref it ∧ H1 it = some (ItO l it 0) ∧ it ≠ q ∧ l ≠ it ∧ l ≠ q ∧ xs.length ≤ sizeLine ∧ SlX.Slt H1 a C dx ws ∧
      spL [.ref a] H1 (lenW fun z H2 => (∃ m : Int, z = .int m ∧ m.toNat ≤ sizeLine) ∧ (H2 q = some (.lst []) ∧ H2 it = some (ItO l it 0) ∧ SqL X.K H2 l xs ∧ P xs (upd (upd H2 q (.lst xs)) it (ItE it xs.length)))) E0) E0)
    (hdone : ∀ xs H' s', Inv X pins σ H' s' → H' q = some (.lst xs) → P xs H' → Rs (.ok (.ret res)) s') :
    wpAny (model X.prog X.w) A1.in1 (Builtin.List.listExtendWith (.ref q) (.ref a) res)
      (fun fin s' => match fin with | .done f => Rs (.ok f) s' | .again c' => c'.quiet = true ∧ codeAny (model X.prog X.w) A1 c' Rs s') (fun e s' => Rs (.error e) s') s := by
  obtain ⟨sl, od, _, J, _⟩ := SlX.slt_inst I ha
  obtain ⟨m0, hF⟩ := I.fr
  unfold Builtin.List.listExtendWith
  refine wpAny_bind (J.type.here ?_)
  have h1 : Builtin.List.listSameRef (.ref q) (.ref a) = false := by simp [Builtin.List.listSameRef, nq]
  have h2 : (Value.ref C == Value.type "list") = false := rfl
  have h3 : (Value.ref C == Value.type "tuple") = false := rfl
  simp only [h1, h2, h3, Bool.or_false, Bool.false_eq_true, if_false]
  refine wpAny_bind (PySem.W.owit_iter hF I.ok.mod.kin J hi hif ?_)
  refine wpAny_mono (call_fnA FI sb1 I (us := [.ref a]) (vs := [V.ref a]) (.cons rfl .nil) hsp) (fun v s' z => ?_) fun _ _ z => z
  obtain ⟨v', H1, I1, rv, it, l, xs, rfl, hit, n1, n2, n3, hz, ha1, hsl⟩ := z
  cases (show v = Value.ref it from rv)
  have hT : s'.TypeIs (.ref it) "list_iterator" := ⟨_, itO_get I1 hit, rfl⟩
  unfold PySem.W.OwitIt
  refine wpAny_specialOf hT slot_listiter_next.lookup ?_
  refine wpAny_bind (wpAny_holding (hint_own (A1 := A1.in1) hl hlf FL sb I1 ha1 hsl fun b H2 s2 I2 q2 => ?_))
  obtain ⟨hq2, hit2, hl2, hP⟩ := q2
  have e2 : upd (upd H2 q (.lst (xs.take 0))) it (ItO l it 0) = H2 := by
    rw [List.take_zero, upd_id hq2, upd_id hit2]
  have go : ∀ s3, Inv X pins σ H2 s3 → codeAny (model X.prog X.w) A1 (.builtin "list.extend.loop" ⟨[.ref q, .ref it, res], []⟩) Rs s3 := fun s3 I3 =>
    lit_loop hh hz n1 n2 n3 hl2 (fun s4 I4 => hdone xs _ s4 I4 (by rw [upd_ne (Ne.symm n1), upd_same]) hP) xs.length 0 s3 rfl (by rw [e2]; exact I3)
  refine wpAny_ite_split (fun _ => ?_) (fun _ => wpAny_pure ⟨plainId_quiet PySem.F.plain_extend_loop _, go _ I2⟩)
  refine wpAny_bind (wpAny_rule ?_)
  refine wpAny_bind ?_
  show wpAny _ _ (updateSeq q (·.push .none) >>= fun _ => updateSeq q (·.pop)) _ _ _
  obtain ⟨z, its, k, r3, hl3, e3⟩ := I2.lstM hq2
  cases r3
  refine wpAny_bind (wpAny_updateSeq e3 rfl ?_)
  have I3 := I2.lset (f := (·.push Value.none)) (its' := [Value.none]) (ys := [.non]) (t' := s2.toks) hq2 e3 (by simp) (.cons rfl .nil) (by rw [List.length_singleton, sizeLine_eq]; decide)
  obtain ⟨z4, its4, k4, r4, hl4, e4⟩ := I3.lstM upd_same
  obtain ⟨u4, rfl, ru4⟩ := r4.one
  refine wpAny_updateSeq e4 rfl ?_ (by show 1 ≤ sizeLine; rw [sizeLine_eq]; decide) (by show 0 ≤ sizeLine + 1; exact Nat.zero_le _)
  refine wpAny_pure ⟨plainId_quiet PySem.F.plain_extend_loop _, go _ ?_⟩
  have I4 := I3.lset (f := (·.pop)) (its := [u4]) (its' := []) (ys := []) (t' := s2.toks) upd_same e4 (by rfl) .nil (Nat.zero_le _)
  rw [upd_upd, upd_id hq2] at I4
  exact I4
end
end DL
namespace DL
open PySem PySem.Spec PyProof.Rows L2 Evl
/-- the list that the field i holds -/
def fldL (C i : Nat) (d : D) : Option (List D) := match d with
  | .obj c fs => if c = C then (match fs[i]? with | some (.lst ds) => some ds | _ => none) else none
  | _ => none
/-- __iter__ gives iter of the field i -/
def spIt (K : PySem.W.Frag) (B : Bx) (C i : Nat) : Sp := fun vs H P _ => ∃ (G : Hp) (a : Addr) (d : D) (ds : List D), vs = [.ref a] ∧ Jn K B G H ∧ Dat K B G (.ref a) d ∧ fldL C i d = some ds ∧
  ∀ it l xs, H it = none → G l = some (.lst xs) → Dats K B G xs ds → P (.ref it) (upd H it (ItO l it 0))
def tIt (K : PySem.W.Frag) (f : Str) : TS := tRet (tCB (rIter K) (tCons (SlX.tSl K (tVar 0) f) tNil))
/-- an object's field -/
theorem fldL_obj {K : PySem.W.Frag} {B : Bx} {G : Hp} {a : Addr} {C i : Nat} {d : D} {ds : List D} (h : Dat K B G (.ref a) d) (e : fldL C i d = some ds) : ∃ (dx : Addr) (vs : List V) (l : Addr) (xs : List V), G a = some (SlX.SlO a (B.ct C) dx (vs.map some)) ∧ G dx = some (.xd []) ∧ vs[i]? = some (.ref l) ∧ G l = some (.lst xs) ∧ Dats K B G xs ds := by
  generalize hv : V.ref a = v at h
  cases h with
  | @obj a' dx C1 vs fs h3 h4 h5 =>
    cases hv
    unfold fldL at e
    by_cases hcc : C1 = C
    · subst hcc
      simp only [if_true] at e
      cases hf : fs[i]? with
      | none => rw [hf] at e; cases e
      | some y =>
        rw [hf] at e
        cases y with
        | lst ys =>
          cases e
          obtain ⟨u, e1, e2⟩ := h5.get hf
          cases e2 with
          | lst hl hd => exact ⟨dx, vs, _, _, h3, h4, e1, hl, hd⟩
        | _ => cases e
    · simp only [hcc, if_false] at e
      cases e
  | _ => cases e
theorem fn_it {P : Program} {w : World} {K : PySem.W.Frag} {mg : Str → Option Value} {base : Heap} {x qual : Str} {st : Stmt} {f : Addr} {fd : FuncData} {N ps : List Str} {k : Nat} {B : Bx} {C i : Nat} {fld : Str} (F : Fun K x qual st f fd) (Sc : FnScope N ps (defScope st)) (hps : ps.length = 1)
    (c : SlX.SCls K (B.ct C)) (t : SlotAt K (B.ct C) fld i) (h0 : ∀ v : V, (start N [v])[0]? = some (some v))
    (hbody : ∀ (cdv : Value) (A : Around) (outer : List Env) (s : Shared) (H : Hp) (E : XK), Room k (A.deeper (envOfC qual (defScope st) s.heap.objs.size f cdv)) → PSs (cxOf CX0 P w K mg base N qual (defScope st) f cdv A outer s H E).nox (defBody st) (tIt K fld)) :
    FnOk P w K mg base CX0 (k + 1) f fd ps (spIt K B C i) := by
  refine F.ok Sc (fun vs H Q E h => ?_) (fun cdv A outer s H vs Q E hr h => ⟨_, hbody cdv A outer s H E hr, ?_⟩)
  · obtain ⟨G, a, d, ds, rfl, _⟩ := h
    exact hps.symm
  · obtain ⟨G, a, d, ds, rfl, j, hd, hf, kk⟩ := h
    obtain ⟨dx, vs, l, xs, h1, h2, h3, h4, h5⟩ := fldL_obj hd hf
    obtain ⟨p, tp⟩ := t.ex
    refine ⟨.ref a, h0 _, a, B.ct C, dx, p, vs.map some, i, .ref l, rfl, obj_slt (K := K) (B := B) j.ex h1 h2, c, tp, by rw [List.getElem?_map, h3]; rfl, ?_⟩
    exact ⟨l, xs, rfl, sq_of (j.ex _ _ h4), fun it hit => kk it l xs hit h4 h5⟩
/-- what is asked of an instance's length, and its list -/
def lstO (C i : Nat) (S : FD) (d : D) (Q : List D → Prop) : Prop := match fldL C i d with
  | some ds => ds.length ≤ 100000 ∧ S [d] (lenQ fun y => match y with
    | .int m => m ≤ 100000
    | _ => False) ∧ Q ds
  | none => False
def rLO (K : PySem.W.Frag) (B : Bx) (C i : Nat) (S : FD) : List V → Hp → VK → Prop := fun xs H P => ∃ (G : Hp) (a : Addr) (d : D) (Q : List D → Prop), xs = [.ref a] ∧ Jn K B G H ∧ Dat K B G (.ref a) d ∧ lstO C i S d Q ∧
  ∀ ds p vs G2 H2, Q ds → Gr K B G H G2 H2 → H p = none → G2 p = none → H2 p = some (.lst vs) → Dats K B G2 vs ds → P (.ref p) H2
section
variable {X : Cx} {B : Bx} {C i k : Nat} {gi gl : Addr} {S : FD}
theorem it_mu {H : Hp} {l it : Addr} {i : Nat} (h : H it = some (ItO l it i)) : Mu H it := ⟨_, h, nlx fun hp o e g => by rw [e] at g; cases g; exact fun z => by cases z⟩
/-- the middle: what __iter__ and __len__ are asked of -/
theorem it_mid {n : Nat} {G H : Hp} {a q dx : Addr} {vs : List V} {d : D} {ds : List D} {P : List V → Hp → Prop} (j : Jn X.K B G H) (hq : H q = none) (hd : Dat X.K B G (.ref a) d) (hf : fldL C i d = some ds) (h3 : G a = some (SlX.SlO a (B.ct C) dx (vs.map some))) (h4 : G dx = some (.xd []))
    (hz : ds.length ≤ 100000) (hS : S [d] (lenQ fun y => match y with | .int m => m ≤ 100000 | _ => False))
    (kk : ∀ xs G2 H2, Gr X.K B G H G2 H2 → G2 q = none → H2 q = some (.lst xs) → Dats X.K B G2 xs ds → P xs H2) :
    spIt X.K B C i [.ref a] (upd H q (.lst [])) (fun v H1 => ∃ it l xs, v = .ref it ∧ H1 it = some (ItO l it 0) ∧ it ≠ q ∧ l ≠ it ∧ l ≠ q ∧ xs.length ≤ sizeLine ∧ SlX.Slt H1 a (B.ct C) dx (vs.map some) ∧
      spD X.K B S [.ref a] H1 (lenW fun z H2 => (∃ m : Int, z = .int m ∧ m.toNat ≤ sizeLine) ∧ (H2 q = some (.lst []) ∧ H2 it = some (ItO l it 0) ∧ SqL X.K H2 l xs ∧ P xs (upd (upd H2 q (.lst xs)) it (ItE it xs.length)))) E0) E0 := by
  have g1 := Gr.new0 (o := .lst []) j hq
  refine ⟨G, a, d, ds, rfl, g1.j, hd, hf, fun it l xs hit hl hds => ?_⟩
  have n1 : it ≠ q := fun e => by rw [e, upd_same] at hit; cases hit
  have hit0 : H it = none := by rw [upd_ne n1] at hit; exact hit
  have hlH : H l = some (.lst xs) := j.ex _ _ hl
  have n2 : l ≠ it := ne_of_none hlH hit0
  have n3 : l ≠ q := ne_of_none hlH hq
  have g2 := Gr.new0 (o := ItO l it 0) g1.j hit
  refine ⟨it, l, xs, rfl, upd_same, n1, n2, n3, by rw [hds.len]; exact sz_of hz, obj_slt (K := X.K) (B := B) g2.j.ex h3 h4, ?_⟩
  refine ⟨G, [d], _, g2.j, .cons hd .nil, hS, fun y v G2 H2 q2 g3 d2 => ?_⟩
  cases d2 with
  | int m =>
    obtain ⟨hm, hm2⟩ := q2
    have hq1 : upd (upd H q (.lst [])) it (ItO l it 0) q = some (.lst []) := by rw [upd_ne (Ne.symm n1), upd_same]
    have g13 := (g1.trans g2).trans g3
    have nbq : B.nb q := Gr.neB j hq
    have nbi : B.nb it := Gr.neB j hit0
    have gq : G2 q = none := (g3.old q ⟨_, hq1, nl rfl⟩).trans (fresh_back j.ex hq)
    have gi : G2 it = none := (g3.old it (it_mu upd_same)).trans (fresh_back j.ex hit0)
    refine ⟨m, rfl, hm, ⟨m, rfl, sz_of (by have : m ≤ 100000 := hm2; omega)⟩, g3.keep _ _ nbq hq1, g3.keep _ _ nbi upd_same, sq_of (g3.j.ex _ _ (g3.ex _ _ hl)), ?_⟩
    refine kk xs G2 _ ((g13.own hq gq nbq).own hit0 gi nbi) gq ?_ (hds.mono g3.ex)
    rw [upd_ne (Ne.symm n1), upd_same]
  | _ => exact q2.elim
theorem call_listO (hi : PySem.W.findIn X.K (.ref (B.ct C)) "__iter__" = some (some (.ref gi))) (hif : PySem.W.isFn X.K (.ref gi) = true) (hl : PySem.W.findIn X.K (.ref (B.ct C)) "__len__" = some (some (.ref gl))) (hlf : PySem.W.isFn X.K (.ref gl) = true)
    (FI : FnR X.prog X.w X.K X.mg X.base CX0 k gi (spIt X.K B C i)) (FL : FnR X.prog X.w X.K X.mg X.base CX0 k gl (spD X.K B S)) (hr : Room (k + 3) X.A) (hc : X.calm = true) : CallR X (.type "list") (rLO X.K B C i S) := by
  intro pins s σ H xs us P I rv h
  obtain ⟨G, a, d, Q, rfl, j, hd, hO, kk⟩ := h
  obtain ⟨u, rfl, ru⟩ := vals1 rv
  cases (show u = Value.ref a from ru)
  unfold lstO at hO
  cases hf : fldL C i d with
  | none => rw [hf] at hO; exact hO.elim
  | some ds =>
    rw [hf] at hO
    obtain ⟨hz, hS, hQ⟩ := hO
    obtain ⟨dx, vs, l0, xs0, h3, h4, _, _, _⟩ := fldL_obj hd hf
    have sb1 : Sub X k X.A.in1.in1 := Sub.mono (Sub.in1 (Sub.in1 (⟨hr, rfl⟩ : Sub X (k + 3) X.A))) (by omega)
    have sb : Sub X k X.A.in1.in1.in1 := Sub.in1 (Sub.in1 (Sub.in1 (⟨hr, rfl⟩ : Sub X (k + 3) X.A)))
    refine callType_codes (Q₁ := fun obj s₁ => obj = .ref s.heap.objs.size ∧ s₁ = { s with heap := s.heap.push { cls := .type "list", data := .seq #[] } }) PySem.F.called_list (PySem.F.typeCall_list_1 _) PySem.F.entry_list_init
      (code_list_new _ ⟨rfl, rfl⟩) fun obj s₁ h₁ => ?_
    obtain ⟨rfl, rfl⟩ := h₁
    have hS0 : (s.heap.push { cls := .type "list", data := .seq #[] }).get? s.heap.objs.size = some { cls := .type "list", data := .seq #[] } := Heap.get?_push_size _ rfl
    refine ⟨⟨_, hS0, rfl⟩, PySem.F.args_list_init_2 _ _, ?_⟩
    have fr : H s.heap.objs.size = none := I.hok.fresh (Nat.le_refl _)
    have I1 : Inv X pins σ (upd H s.heap.objs.size (.lst [])) { s with heap := s.heap.push { cls := .type "list", data := .seq #[] } } := I.lnew (its := []) (t' := s.toks) .nil (Nat.zero_le _)
    show wpAny _ _ (do let old ← Builtin.List.listItems (.ref s.heap.objs.size); Builtin.List.listUpdate (.ref s.heap.objs.size) (fun _ => #[]); letGo old.toList.reverse; Builtin.List.listExtendWith (.ref s.heap.objs.size) (.ref a) .none) _ _ _
    refine wpAny_bind ?_
    unfold Builtin.List.listItems
    refine wpAny_bind (wpAny_seqItems hS0 rfl (wpAny_pure ?_))
    show wpAny _ _ (updateSeq s.heap.objs.size (fun _ => #[]) >>= fun _ => letGo (#[] : Array Value).toList.reverse >>= fun _ => Builtin.List.listExtendWith (.ref s.heap.objs.size) (.ref a) .none) _ _ _
    refine wpAny_bind (wpAny_updateSeq hS0 rfl ?_)
    have I2 := I1.lset (f := fun _ => #[]) (its := []) (its' := []) (ys := []) (t' := s.toks) upd_same hS0 rfl .nil (Nat.zero_le _)
    rw [upd_upd] at I2
    refine wpAny_bind (wpAny_letGo ?_)
    have haH : H a = some (SlX.SlO a (B.ct C) dx (vs.map some)) := j.ex _ _ h3
    have ha2 : SlX.Slt (upd H s.heap.objs.size (.lst [])) a (B.ct C) dx (vs.map some) := obj_slt (K := X.K) (B := B) (Gr.new0 (o := .lst []) j fr).j.ex h3 h4
    exact ext_own (A1 := X.A.in1) (P := fun _ H' => P (.ref s.heap.objs.size) H') (Rs := wants (fun r s₂ => r = .none ∧ EP X pins σ P (.ref s.heap.objs.size) s₂) X.xe) hi hif hl hlf FI FL sb1 sb (I.ok.hd hc) I2 ha2 upd_same (Ne.symm (ne_of_none haH fr))
      (it_mid (n := k) j fr hd hf h3 h4 hz hS fun xs G2 H2 g gq hq2 hds => kk ds _ xs G2 H2 hQ g fr gq hq2 hds)
      (fun xs H' s' I' _ hP => ⟨rfl, .ref s.heap.objs.size, H', I', rfl, hP⟩)
end
section
variable {X : Cx} {B : Bx} {C i k : Nat} {gi gl : Addr} {S : FD} {e : Expr} {r : DE} {p pos : Pos}
def fListO (C i : Nat) (S : FD) (r : DE) : DA := fun δ Q => r δ fun d => lstO C i S d Q
theorem pf_listO (hi : Meth X.K (B.ct C) "__iter__" gi) (hl : Meth X.K (B.ct C) "__len__" gl)
    (FI : FnR X.prog X.w X.K X.mg X.base CX0 k gi (spIt X.K B C i)) (FL : FnR X.prog X.w X.K X.mg X.base CX0 k gl (spD X.K B S)) (hr : Room (k + 3) X.A) (hc : X.calm = true) (hg : Gl X "list") (hm : X.mg "list" = none) (he : PD X B e r) (hs : starEach [e] X.env = (false, eval e X.env) :: starEach [] X.env := by rfl) (hpl : (backTo pos (starEach [] X.env)).any (·.1) = false := by rfl) :
    PF X B (.Call (.Name "list" p) [e] [] pos) (fListO C i S r) := pe_mono (pe_callTy (call_listO hi.at_ hi.fn hl.at_ hl.fn FI FL hr hc) hg hm (by decide +kernel) (pa_cons he pa_nil hs) (by decide) (by decide) hs hpl) fun σ H P q => by
  obtain ⟨H0, G, δ, Q, j, st, hr, kk⟩ := q
  refine ⟨H0, G, δ, _, j, st, hr, fun d v G2 H2 q2 g2 h2 => ?_⟩
  have q2 : lstO C i S d Q := q2
  cases h2 with
  | obj h3 h4 h5 => exact ⟨G2, _, _, Q, rfl, g2.j, .obj h3 h4 h5, q2, fun ds p vs G3 H3 q3 g3 hp gp hp3 hds => kk ds p vs G3 H3 q3 (g2.trans g3) (g2.free hp) gp hp3 hds⟩
  | _ => exact q2.elim
theorem pd_lenO (hl : Meth X.K (B.ct C) "__len__" gl) (FL : FnR X.prog X.w X.K X.mg X.base CX0 k gl (spD X.K B S)) (hr : Room (k + 1) X.A) (hg : Gl X "len") (hm : X.mg "len" = none) (he : PD X B e r) (hs : starEach [e] X.env = (false, eval e X.env) :: starEach [] X.env := by rfl) (hpl : (backTo pos (starEach [] X.env)).any (·.1) = false := by rfl) :
    PD X B (.Call (.Name "len" p) [e] [] pos) (dCall (cLenO C S) (dCons r dNil)) := pd_callB (call_lenO hl.at_ hl.fn FL hr) hg hm (by decide +kernel) (pad_cons he pad_nil hs) (by decide) (by decide) hs hpl
end
section
variable {C i : Nat} {S : FD} {r : DE} {δ : DS} {Q : D → Prop} {QL : List D → Prop} {d : D} {ds : List D}
theorem z_listO : fListO C i S r δ QL = r δ fun d => lstO C i S d QL := propext Iff.rfl
theorem z_lenO : cLenO C S [d] Q = (isO C d ∧ S [d] (lenQ Q)) := propext Iff.rfl
theorem lstO_ok {Q : List D → Prop} (hf : fldL C i d = some ds) (hz : ds.length ≤ 100000) (hS : S [d] (lenQ fun y => match y with | .int m => m ≤ 100000 | _ => False)) (hq : Q ds) : lstO C i S d Q := by
  unfold lstO
  rw [hf]
  exact ⟨hz, hS, hq⟩
end
def seqQ (d : D) (Q : List D → Prop) : Prop := match d with
  | .lst xs => Q xs
  | .tup xs => Q xs
  | .ktup xs => Q xs
  | _ => False
def iSeqK (r : DE) : DA := fun δ Q => r δ fun d => seqQ d Q
theorem pid_seqK {X : Cx} {B : Bx} {e : Expr} {r : DE} {tg : Expr} (he : PD X B e r) : PID X B tg e (iSeqK r) := by
  refine ⟨fun pins s σ H R I h => ?_⟩
  obtain ⟨H0, G, δ, Q, j, st, hr, k⟩ := h
  refine thn (he.run pins s σ H (fun x H1 => ∃ G2 d, seqQ d Q ∧ Gr X.K B G H G2 H1 ∧ Dat X.K B G2 x d) I ⟨H0, G, δ, _, j, st, hr, fun d v G2 H2 q2 g2 h2 => ⟨G2, d, q2, g2, h2⟩⟩) fun v s1 ⟨x, H1, I1, r1, q1⟩ => ?_
  obtain ⟨G2, d, q2, g2, h2⟩ := q1
  cases h2 with
  | @lst a xs ds h3 h4 =>
    cases r1
    obtain ⟨its, rv, p, hz⟩ := I1.list (sq_of (g2.j.ex _ _ h3))
    exact wpAny_pyIter_list p.isList (pi_one (tk := s1.toks) I1 _ (turn_list a _) ⟨_, Heap.get?_push_size _ rfl, rfl, rfl⟩ (k ds _ G2 H1 q2 g2 (itd_list h3 h4)))
  | @tup a xs ds h3 h4 =>
    cases r1
    obtain ⟨its, rv, p, hz⟩ := I1.tuple (tx g2.j.ex h3)
    exact wpAny_pyIter_tuple (show s1.heap.IsTuple a its.toArray from p) (pi_one (tk := s1.toks) I1 _ (turn_tuple a _) ⟨_, Heap.get?_push_size _ rfl, rfl, rfl⟩ (k ds _ G2 H1 q2 g2 (itd_tup (st_of h3) h4)))
  | @ktup a xs ds h3 h4 =>
    cases r1
    obtain ⟨its, rv, p, hz⟩ := I1.tuple (ex_t g2.j.ex h3)
    exact wpAny_pyIter_tuple (show s1.heap.IsTuple a its.toArray from p) (pi_one (tk := s1.toks) I1 _ (turn_tuple a _) ⟨_, Heap.get?_push_size _ rfl, rfl, rfl⟩ (k ds _ G2 H1 q2 g2 (itd_tup h3 h4)))
  | _ => exact q2.elim
section
variable {r : DE} {δ : DS} {QL : List D → Prop} {xs : List D}
theorem z_seqK : iSeqK r δ QL = r δ fun d => seqQ d QL := propext Iff.rfl
theorem z_seqKl : seqQ (.lst xs) QL = QL xs := propext Iff.rfl
theorem z_seqKt : seqQ (.tup xs) QL = QL xs := propext Iff.rfl
theorem z_seqKk : seqQ (.ktup xs) QL = QL xs := propext Iff.rfl
end
end DL
namespace DL
open PySem PySem.Spec PyProof.Rows L2 Evl
def scTD (d : D) (Q : D → Prop) : Prop := match d with
  | .tup ds => ds.all scal = true ∧ Q (.tup ds)
  | d => scal d = true ∧ Q d
section
variable {X : Cx} {B : Bx}
theorem bor_core3 {pins : List (Addr × Obj)} {σ : L2.St} {s : Shared} {H0 G H : Hp} {δ : DS} {i : Nat} {v : V} {o : OD} (I : Inv X pins σ H s) (j : Jn X.K B G H) (st : StOk X.K B H0 G H σ δ) (h1 : δ[i]? = some (some (.ow v o))) :
    ∃ G1 L, Inv X pins σ L s ∧ Jn X.K B G1 L ∧ StOk X.K B H0 G1 L σ (δ.set i (some (.sh o.toD))) ∧ ∀ s2 G2 H2, Inv X pins σ H2 s2 → Gr X.K B G1 L G2 H2 → ∃ U G3, Inv X pins σ U s2 ∧ Gr X.K B G H G3 U ∧ ∀ a vs, H2 a = some (.tup vs) → U a = some (.tup vs) := by
  obtain ⟨F, y⟩ := st.ex
  obtain ⟨e1, e2, e3, e4⟩ := y.ow h1
  obtain ⟨L, I2, l⟩ := lock_all (F i) I e3
  have hG : ∀ p ∈ F i, G p = none := fun p hp => (e2.node p hp).1
  have ex := frz_ex (G := G) (H := L) hG
  have nb : B.b ∉ F i := fun z => (e4 _ z).2.1.1 rfl
  have kinds := lkd_kinds l fun p hp => e2.node p hp
  have nf : ∀ p ∈ F i, ∀ o' u', X.H_0 p ≠ some (.frz o' u') := fun p hp => by
    rcases (e2.node p hp).2 with ⟨vs, a⟩ | ⟨vs, a⟩ | ⟨vs, a⟩ <;> exact I.nofrz a trivial
  have nn : ∀ a, ¬ B.nb a → a ∉ F i := fun a n z => n (e4 a z).2
  have xt : Xt B (frzG G L (F i)) L := j.next ex (fun a o n h => (l.out a (nn a n)).trans h) (fun a n _ => by unfold frzG; rw [if_neg (nn a n)]) (fun t h _ => by
    have nt : t.1 ∉ F i := fun z => (e4 _ z).2.tab t h rfl
    exact ⟨l.out _ nt, fun z => by unfold frzG; rw [if_neg nt]; exact z⟩) (fun a ps h => by
    by_cases ha : a ∈ F i
    · rcases kinds a ha with ⟨vs, _, b⟩ | ⟨u, od, _, b⟩ <;> rw [b] at h <;> cases h
    · rw [l.out a ha] at h
      exact ⟨_, h⟩)
  refine ⟨frzG G L (F i), L, I2, ⟨fun a u h => ?_, ?_, ?_, xt⟩, ?_, fun s2 G2 H2 J g => ?_⟩
  · unfold frzG at h
    split at h
    · exact h
    · rename_i hn
      rw [l.out a hn]
      exact j.ex a u h
  · unfold frzG
    rw [if_neg nb]
    exact j.no
  · obtain ⟨a, b, c, ns, h1, h2, h3⟩ := j.bag
    exact ⟨a, b, c, ns, by rw [l.out _ nb]; exact h1, ex_l ex h2, h3⟩
  · have s3 := y.put (i := i) (List.getElem?_eq_some_iff.mp e1).1 ex (H2 := L) (fun p _ _ hp => ⟨l.out p hp, by unfold frzG; rw [if_neg hp]⟩) (.sh (e2.dat hG l fun p hp => hp)) fun p hp => nomatch hp
    rw [set_same e1] at s3
    exact ⟨_, s3⟩
  · have h2 : ∀ p ∈ F i, H2 p = L p := fun p hp => by
      rcases kinds p hp with ⟨vs, _, b⟩ | ⟨u, od, _, b⟩ <;> rw [b] <;> exact g.keep p _ (e4 p hp).2 b
    obtain ⟨U, J2, u1, u2⟩ := unlock_all (H := H) (L := L) (F i) J e3 kinds h2 nf
    refine ⟨U, codG G G2, J2, Gr.back j g ex l.out (fun p hp => ?_) (fun p hp => (e4 p hp).2) hG u1 u2, fun a vs h => (u2 a fun z => ?_).trans h⟩
    rotate_left
    · rw [h2 a z] at h
      rcases kinds a z with ⟨vs, _, b⟩ | ⟨u, od, _, b⟩ <;> rw [b] at h <;> cases h
    rw [h2 p hp]
    rcases kinds p hp with ⟨vs, _, b⟩ | ⟨u, od, _, b⟩
    · exact ⟨_, b, ncod (nl rfl)⟩
    · exact ⟨_, b, ncod (nl rfl)⟩
def dBorT (i : Nat) (r : DE) : DE := fun δ Q => ownO δ[i]? fun _ o => r (δ.set i (some (.sh o.toD))) fun d => scTD d Q
theorem pd_borT {e : Expr} {r : DE} (i : Nat) (h : PD X B e r) : PD X B e (dBorT i r) := ⟨fun pins s σ H P I q => by
  obtain ⟨H0, G, δ, Q, j, st, hr, k⟩ := q
  have hr : ownO δ[i]? fun _ o => r (δ.set i (some (.sh o.toD))) fun d => scTD d Q := hr
  unfold ownO at hr
  split at hr
  · rename_i v o h1
    obtain ⟨G1, L, I2, j1, s1, back⟩ := bor_core3 I j st h1
    refine thn (h.run pins s σ L (fun x H2 => ∃ G2 d, scTD d Q ∧ Gr X.K B G1 L G2 H2 ∧ Dat X.K B G2 x d) I2 ⟨H0, G1, _, _, j1, s1, hr, fun d x G2 H2 q2 g2 h2 => ⟨G2, d, q2, g2, h2⟩⟩) fun u s2 ⟨x, H2, J, r2, G2, d, q2, g2, h2⟩ => ?_
    obtain ⟨U, G3, J2, g3, tu⟩ := back s2 G2 H2 J g2
    by_cases sc : scal d = true
    · have q2 : Q d := by
        cases d with
        | tup ds => cases sc
        | _ => exact q2.2
      exact ⟨x, U, J2, r2, k d x G3 U q2 g3 (scal_dat h2 sc)⟩
    · cases d with
      | tup ds =>
        cases h2 with
        | @tup a xs _ ga hx =>
          have ua := tu a xs (g2.j.ex _ _ ga)
          have hx3 := scal_dats (G2 := G3) hx q2.1
          cases e3 : G3 a with
          | none =>
            exact ⟨_, U, J2, r2, k _ _ _ U q2.2 (g3.trans (Gr.learn g3.j ua e3)) (.tup upd_same (hx3.mono (Ex.new e3)))⟩
          | some o' =>
            have := g3.j.ex _ _ e3
            rw [ua] at this
            cases this
            exact ⟨_, U, J2, r2, k _ _ _ U q2.2 g3 (.tup e3 hx3)⟩
      | _ => exact absurd q2.1 sc
  · exact hr.elim⟩
end
section
variable {i : Nat} {r : DE} {δ : DS} {Q : D → Prop}
theorem z_borT : dBorT i r δ Q = ownO δ[i]? fun _ o => r (δ.set i (some (.sh o.toD))) fun d => scTD d Q := propext Iff.rfl
theorem z_scTN : scTD .non Q = Q .non := by unfold scTD; simp [scal]
theorem z_scTB {b : Bool} : scTD (.bl b) Q = Q (.bl b) := by unfold scTD; simp [scal]
theorem z_scTI {b : Int} : scTD (.int b) Q = Q (.int b) := by unfold scTD; simp [scal]
theorem z_scTS {b : Str} : scTD (.str b) Q = Q (.str b) := by unfold scTD; simp [scal]
theorem z_scTT {ds : List D} : scTD (.tup ds) Q = (ds.all scal = true ∧ Q (.tup ds)) := propext Iff.rfl
end
end DL
namespace DL
open PySem PySem.Spec PyProof.Rows L2 Evl
end DL
namespace DL
open PySem PySem.Spec PyProof.Rows L2 Evl
end DL
namespace DL
open PySem PySem.Spec PyProof.Rows L2 Evl PySem.W
end DL
namespace DL
open PySem PySem.Spec PyProof.Rows L2 Evl PySem.W
def kickD (i j : Nat) (W : DEnds) : List (List Nat) → DS → Prop
  | [], δ => W.nx δ
  | π :: πs, δ => lstAt δ i π fun xs => xs.length < sizeLine ∧ kickD i j W πs (putS (δ.set j none) i π (.lst (xs ++ [.sh .non])))
abbrev DK := DS → (Nat → List (List Nat) → Prop) → Prop
def kids (π : List Nat) (n : Nat) : List (List Nat) := (List.range n).map fun k => π ++ [k]
def isL : OD → Bool
  | .lst _ => true
  | _ => false
def allL (xs : List OD) : Bool := xs.all isL
def kCat2 (ρ1 ρ2 : DR) : DK := fun δ Q => ρ1 δ fun i π1 => ρ2 δ fun i2 π2 => lstAt δ i π1 fun xs => lstAt δ i2 π2 fun ys => (i2 = i ∧ xs.length + ys.length ≤ sizeLine ∧ allL xs = true ∧ allL ys = true) ∧ Q i (kids π1 xs.length ++ kids π2 ys.length)
def dKick (κ : DK) (j : Nat) : DTS := fun W δ => κ δ fun i πs => (i ≠ j ∧ j < δ.length) ∧ kickD i j W πs δ
def liftK (K : PySem.W.Frag) (B : Bx) (κ : DK) : TE := fun σ H P => ∃ (H0 G : Hp) (δ : DS) (Q : Nat → List (List Nat) → Prop), Jn K B G H ∧ StOk K B H0 G H σ δ ∧ κ δ Q ∧ ∀ i πs p ws v0 G2 H2, Q i πs → Gr K B G H G2 H2 → σ[i]? = some (some v0) → H2 p = some (.lst ws) → ws.length = πs.length →
  (∀ (k : Nat) (π : List Nat), πs[k]? = some π → ∃ q, ws[k]? = some (V.ref q) ∧ locV H2 v0 π = some (.ref q) ∧ q ≠ p) → P (.ref p) H2
abbrev PK (X : Cx) (B : Bx) (e : Expr) (κ : DK) : Prop := PE X e (liftK X.K B κ)
theorem loc_mono {H H2 : Hp} (h1 : ∀ a vs, H a = some (.lst vs) → ∃ us, H2 a = some (.lst (vs ++ us))) (h2 : ∀ a vs, H a = some (.dK vs) → H2 a = some (.dK vs)) (h3 : ∀ a vs, H a = some (.dT vs) → H2 a = some (.dT vs)) : ∀ (π : List Nat) {v u : V}, locV H v π = some u → locV H2 v π = some u
  | [], v, u, h => by
    have h : some v = some u := by cases v <;> exact h
    cases v <;> exact h
  | n :: π, v, u, h => by
    cases v with
    | ref a =>
      have h : (match H a with | some (.lst vs) => (match vs[n]? with | some u => locV H u π | none => none) | some (.dK vs) => (match vs[n]? with | some u => locV H u.2 π | none => none) | some (.dT vs) => (match vs[n]? with | some u => locV H u.2 π | none => none) | _ => none) = some u := h
      show (match H2 a with | some (.lst vs) => (match vs[n]? with | some u => locV H2 u π | none => none) | some (.dK vs) => (match vs[n]? with | some u => locV H2 u.2 π | none => none) | some (.dT vs) => (match vs[n]? with | some u => locV H2 u.2 π | none => none) | _ => none) = _
      split at h
      · rename_i vs ha
        obtain ⟨us, e⟩ := h1 a vs ha
        rw [e]
        split at h
        · rename_i u' hu
          show (match (vs ++ us)[n]? with | some u => locV H2 u π | none => none) = _
          rw [List.getElem?_append_left (List.getElem?_eq_some_iff.mp hu).1, hu]
          exact loc_mono h1 h2 h3 π h
        · cases h
      · rename_i vs ha
        rw [h2 a vs ha]
        split at h
        · rename_i u' hu
          show (match vs[n]? with | some u => locV H2 u.2 π | none => none) = _
          rw [hu]
          exact loc_mono h1 h2 h3 π h
        · cases h
      · rename_i vs ha
        rw [h3 a vs ha]
        split at h
        · rename_i u' hu
          show (match vs[n]? with | some u => locV H2 u.2 π | none => none) = _
          rw [hu]
          exact loc_mono h1 h2 h3 π h
        · cases h
      · cases h
    | _ => cases h
theorem loc_fresh {H : Hp} {p : Addr} {o : HO} (hp : H p = none) (π : List Nat) {v u : V} (h : locV H v π = some u) : locV (upd H p o) v π = some u := by
  have ne : ∀ a x, H a = some x → a ≠ p := fun a x ha e => by rw [e, hp] at ha; cases ha
  refine loc_mono (fun a vs ha => ⟨[], ?_⟩) (fun a vs ha => ?_) (fun a vs ha => ?_) π h
  · rw [upd_ne (ne a _ ha), List.append_nil]; exact ha
  · rw [upd_ne (ne a _ ha)]; exact ha
  · rw [upd_ne (ne a _ ha)]; exact ha
theorem loc_ext {H : Hp} {p : Addr} {ws us : List V} (hp : H p = some (.lst ws)) (π : List Nat) {v u : V} (h : locV H v π = some u) : locV (upd H p (.lst (ws ++ us))) v π = some u := by
  refine loc_mono (fun a vs ha => ?_) (fun a vs ha => ?_) (fun a vs ha => ?_) π h
  · by_cases e : a = p
    · subst e
      rw [hp] at ha
      cases ha
      exact ⟨us, upd_same⟩
    · exact ⟨[], by rw [upd_ne e, List.append_nil]; exact ha⟩
  · rw [upd_ne (fun e => by subst e; rw [hp] at ha; cases ha)]; exact ha
  · rw [upd_ne (fun e => by subst e; rw [hp] at ha; cases ha)]; exact ha
section
variable {K : PySem.W.Frag} {B : Bx} {G H H0 : Hp} {σ : L2.St} {δ : DS}
theorem StOk.off (s : StOk K B H0 G H σ δ) {j : Nat} (hj : j < σ.length) (ov : Option V) : StOk K B H0 G H (σ.set j ov) (δ.set j none) := by
  obtain ⟨F, y⟩ := s.ex
  exact ⟨_, y.put hj (Ex.refl G) (fun _ _ _ _ => ⟨rfl, rfl⟩) SlotOk.no (fun _ z => nomatch z)⟩
/-- the children of a list of lists of one's own -/
theorem kids_at {v0 : V} {π : List Nat} {p : Addr} {vs : List V} {xs : List OD} {f : List Addr} (hl : locV H v0 π = some (.ref p)) (hp : H p = some (.lst vs)) (ow : Owns K B G H vs xs f) (nd : (p :: f).Nodup) (al : allL xs = true) :
    ∀ (k : Nat) (ρ : List Nat), (kids π xs.length)[k]? = some ρ → ∃ q, vs[k]? = some (V.ref q) ∧ locV H v0 ρ = some (.ref q) ∧ q ≠ p ∧ H q ≠ none := fun k ρ h => by
  unfold kids at h
  rw [List.getElem?_map] at h
  have hk : k < xs.length := by
    rcases Nat.lt_or_ge k xs.length with z | z
    · exact z
    · rw [List.getElem?_eq_none (by rw [List.length_range]; exact z)] at h
      cases h
  rw [List.getElem?_range hk] at h
  cases h
  obtain ⟨u, f1, fk, f2, e1, e2, e3, _⟩ := ow.at (List.getElem?_eq_getElem hk)
  have hx := List.all_eq_true.mp al _ (List.getElem_mem hk)
  have n0 := (List.nodup_cons.mp nd).1
  generalize xs[k] = x at e3 hx
  cases e3 with
  | sh _ => cases hx
  | dK _ _ _ => cases hx
  | dT _ _ _ => cases hx
  | @lst q ws _ g b1 b2 b3 =>
    refine ⟨q, e1, loc_app π hl rfl hp e1, fun e => n0 ?_, by rw [b1]; exact fun z => nomatch z⟩
    rw [← e, e2]
    exact List.mem_append_right _ (List.mem_append_left _ List.mem_cons_self)
theorem kids_len (π : List Nat) (n : Nat) : (kids π n).length = n := by unfold kids; rw [List.length_map, List.length_range]
end
section
variable {X : Cx} {B : Bx} {e a b : Expr} {ρ ρ1 ρ2 : DR} {pos : Pos}
theorem pk_cat (ha : PR X B a ρ1) (hb : PR X B b ρ2) : PK X B (.BinOp a .Add b pos) (kCat2 ρ1 ρ2) := pe_mono (pe_op op_cat ha hb) fun σ H P q => by
  obtain ⟨H0, G, δ, Q, j, st, hr, kk⟩ := q
  refine ⟨H0, G, δ, _, j, st, hr, fun i π v0 v G2 H2 q2 g2 h0 hv => ?_⟩
  refine ⟨H0, G2, δ, _, g2.j, st.gr g2, q2, fun i2 π2 v02 v2 G3 H3 q3 g3 h02 hv2 => ?_⟩
  obtain ⟨xs, hx, q3⟩ := lstAt_at q3
  obtain ⟨ys, hy, ⟨ei, hz, al1, al2⟩, q3⟩ := lstAt_at q3
  subst ei
  rw [h0] at h02
  cases h02
  obtain ⟨fs, a1, a2, a3, a4, _⟩ := (st.gr g2).place hx h0 hv g3
  obtain ⟨fs2, c1, c2, c3, c4, _⟩ := ((st.gr g2).gr g3).place hy h0 hv2 (Gr.refl g3.j)
  cases a1 with
  | @lst p vs _ f b1 b2 b3 =>
    cases c1 with
    | @lst p2 vs2 _ f2 d1 d2 d3 =>
      refine ⟨p, p2, vs, vs2, rfl, rfl, b1, d1, by rw [b3.len, d3.len]; exact hz, fun p3 hp3 => ?_⟩
      have gn := Gr.new0 (o := .lst (vs ++ vs2)) g3.j hp3
      refine kk i2 _ p3 (vs ++ vs2) v0 G3 _ q3 ((g2.trans g3).trans gn) h0 upd_same (by rw [List.length_append, List.length_append, kids_len, kids_len, b3.len, d3.len]) fun k ρ hk => ?_
      have fin : ∀ q : Addr, H3 q ≠ none → q ≠ p3 := fun q hq e => hq (e ▸ hp3)
      by_cases hlt : k < xs.length
      · rw [List.getElem?_append_left (by rw [kids_len]; exact hlt)] at hk
        obtain ⟨q, z1, z2, _, z3⟩ := kids_at a4 b1 b3 a2 al1 k ρ hk
        exact ⟨q, by rw [List.getElem?_append_left (by rw [b3.len]; exact hlt)]; exact z1, loc_fresh hp3 ρ z2, fin q z3⟩
      · rw [List.getElem?_append_right (by rw [kids_len]; omega), kids_len] at hk
        obtain ⟨q, z1, z2, _, z3⟩ := kids_at c4 d1 d3 c2 al2 _ ρ hk
        exact ⟨q, by rw [List.getElem?_append_right (by rw [b3.len]; omega), b3.len]; exact z1, loc_fresh hp3 ρ z2, fin q z3⟩
theorem psd_kick {iter : Expr} {κ : DK} {x : Str} {j jn : Nat} {xp p1 apos cpos epos npos : Pos} (hp : PassesOwn (model X.prog X.w) X.A X.env X.xe) (hc : X.calm = true) (hk : PK X B iter κ) (hN : X.N.Nodup) (hj : X.N[j]? = some x) (hx : L2.Loc X.env.scope x) (hf : X.fn x = true ∨ List.lookup x X.env.scope.names = some NameKind.local)
    (hvs : Vis X.env.scope x := by first | exact Or.inl rfl | exact Or.inr (Or.inl rfl) | exact Or.inr (Or.inr rfl)) (hd : (x == ("__debug__" : Str)) = false := by decide) (hcd : (x == ("__classdict__" : Str)) = false := by decide)
    (hbase : attributeBase (.Name x p1) "append" X.env (eval (.Name x p1) X.env) = eval (.Name x p1) X.env := by rfl)
    (hfew : ((backTo cpos (starEach [.Constant .none jn npos] X.env)).all (fun x => !x.1) && (backToKw cpos (keywordEach [] X.env)).all (fun x => x.1.isSome) && decide ([(Expr.Constant .none jn npos)].length + ([] : List Keyword).length + (if ([] : List Keyword).isEmpty then 0 else 1) < 30)) = true := by rfl)
    (hline : (apos.endLine == cpos.line) = true := by rfl) (hs : starEach [.Constant .none jn npos] X.env = (false, eval (.Constant .none jn npos) X.env) :: starEach [] X.env := by rfl) (hplain : (backTo cpos (starEach [] X.env)).any (·.1) = false := by rfl)
    (hsw : swapsWith (.Call (.Attribute (.Name x p1) "append" apos) [.Constant .none jn npos] [] cpos) none epos.line X.env = pure false := by rfl)
    (hst : ∀ x, foldedSetIterable iter X.env x = pure x := by intro _; rfl) :
    PSD X B (.For (.Name x xp) iter [.Expr (.Call (.Attribute (.Name x p1) "append" apos) [.Constant .none jn npos] [] cpos) epos] [] pos) (dKick κ j) :=
  ps_mono (ps_for hp hc (pi_list hk) (pg_name hN hj hx hf) (pss_one (ps_expr (pe_bm PySem.F.plainAttrs_list PySem.F.slot_list_append PySem.F.type_list_append mt_append (pe_var hj hvs hd hcd) (pa_cons pe_non pa_nil hs) hbase hfew hline hs hplain) hsw)) hst) fun E σ H q => by
  obtain ⟨G0, H0, G, δ, W, g0, s, h, k⟩ := q
  refine ⟨H0, G, δ, _, g0.j, s, h, fun i πs p ws v0 G2 H2 q2 g2 h0 hpw hl hw => ⟨p, rfl, ⟨ws, sq_of hpw⟩, ?_⟩⟩
  obtain ⟨⟨hij, hjl⟩, q2⟩ := q2
  refine ⟨fun n m σ' H' => n + m = πs.length ∧ ∃ G' δ', Ex G2 G' ∧ Gr X.K B G0 H0 G' H' ∧ StOk X.K B H0 G' H' σ' δ' ∧ H' p = some (.lst ws) ∧ σ'[i]? = some (some v0) ∧ j < σ'.length ∧ (∀ (k : Nat) (π : List Nat), πs[k]? = some π → ∃ q, ws[k]? = some (V.ref q) ∧ locV H' v0 π = some (.ref q) ∧ q ≠ p) ∧ kickD i j W (πs.drop n) δ',
    ⟨πs.length, by omega, G2, δ, Ex.refl _, g0.trans g2, s.gr g2, hpw, h0, by rw [s.len]; exact hjl, hw, q2⟩, fun n m σ' H' hWv => ?_⟩
  obtain ⟨em, G', δ', ex, gr, st, hp', hi', hj', hw', hk'⟩ := hWv
  by_cases hlt : n < πs.length
  · have hln : n < ws.length := by omega
    obtain ⟨q, w1, w2, w3⟩ := hw' n _ (List.getElem?_eq_getElem hlt)
    refine .inr ⟨⟨ws, _, sq_of hp', w1⟩, fun σ1 H1 => ∃ G3 δ3, Ex G2 G3 ∧ Gr X.K B G0 H0 G3 H1 ∧ StOk X.K B H0 G3 H1 σ1 δ3 ∧ H1 p = some (.lst ws) ∧ σ1[i]? = some (some v0) ∧ j < σ1.length ∧ (∀ (k : Nat) (π : List Nat), πs[k]? = some π → ∃ q, ws[k]? = some (V.ref q) ∧ locV H1 v0 π = some (.ref q) ∧ q ≠ p) ∧ kickD i j W (πs.drop (n + 1)) δ3, fun σ1 H1 hn => ⟨m - 1, by omega, by omega, hn⟩, fun x H1 hy => ?_⟩
    obtain ⟨rfl, hy⟩ := hy
    have ex1 := hy ws (sq_of hp')
    rw [w1] at ex1
    cases ex1
    rw [List.drop_eq_getElem_cons hlt] at hk'
    obtain ⟨xs, hx1, hz, hk'⟩ := lstAt_at hk'
    have so := st.off hj' (some (V.ref q))
    have hi2 : (σ'.set j (some (V.ref q)))[i]? = some (some v0) := by rw [List.getElem?_set_ne (Ne.symm hij)]; exact hi'
    have hx2 : getS (δ'.set j none) i πs[n] = some (.lst xs) := by
      unfold getS at hx1 ⊢
      rw [List.getElem?_set_ne (Ne.symm hij)]
      exact hx1
    obtain ⟨fs, a1, a2, a3, a4, a5⟩ := so.place hx2 hi2 w2 (Gr.refl gr.j)
    cases a1 with
    | @lst _ vs _ f b1 b2 b3 =>
      have hq := a3 q List.mem_cons_self
      have nq := (List.nodup_cons.mp a2).1
      refine ⟨.ref q, List.getElem?_set_self hj', .inl ⟨rfl, vs, sq_of b1⟩, q, vs, .non, rfl, rfl, b1, by rw [b3.len]; exact hz, ?_⟩
      have c4 := (b3.past (ho := .lst (vs ++ [.non])) nq).append (Owns.cons (H := upd H1 q (.lst (vs ++ [.non]))) (.sh .non) .nil)
      rw [List.append_nil, List.append_nil] at c4
      refine ⟨G', _, ex, gr.own hq.1 b2 hq.2, a5 q _ _ (q :: f) List.mem_cons_self (.lst upd_same b2 c4) a2 (fun z hz => hz), by rw [upd_ne (Ne.symm w3)]; exact hp', hi2, by rw [List.length_set]; exact hj', fun k2 π2 hk2 => ?_, hk'⟩
      obtain ⟨q2, y1, y2, y3⟩ := hw' k2 π2 hk2
      exact ⟨q2, y1, loc_ext b1 π2 y2, y3⟩
  · have e : n = πs.length := by omega
    subst e
    rw [List.drop_length] at hk'
    exact .inl ⟨⟨ws, sq_of hp', by omega⟩, k.nx _ _ _ _ hk' gr (g2.ex.trans ex) st⟩
end
section
variable {κ : DK} {ρ ρ1 ρ2 : DR} {i j : Nat} {W : DEnds} {δ : DS} {Q : Nat → List (List Nat) → Prop}
theorem z_kick : dKick κ j W δ = κ δ fun i πs => (i ≠ j ∧ j < δ.length) ∧ kickD i j W πs δ := propext Iff.rfl
theorem z_kCat2 : kCat2 ρ1 ρ2 δ Q = ρ1 δ fun i π1 => ρ2 δ fun i2 π2 => lstAt δ i π1 fun xs => lstAt δ i2 π2 fun ys => (i2 = i ∧ xs.length + ys.length ≤ sizeLine ∧ allL xs = true ∧ allL ys = true) ∧ Q i (kids π1 xs.length ++ kids π2 ys.length) := propext Iff.rfl
theorem get_app {e : OD} : ∀ (π π' : List Nat) (o : OD) {xs ys : List OD}, getO o π = some (.lst xs) → getO o π' = some (.lst ys) → ∃ ys', getO (setO o π (.lst (xs ++ [e]))) π' = some (.lst ys') ∧ ys'.length ≤ ys.length + 1
  | [], [], o, xs, ys, h, h' => by
    have h : some o = some (.lst xs) := by cases o <;> exact h
    have h' : some o = some (.lst ys) := by cases o <;> exact h'
    cases h
    cases h'
    exact ⟨xs ++ [e], rfl, by rw [List.length_append]; exact Nat.le_refl _⟩
  | [], k :: π', o, xs, ys, h, h' => by
    have h : some o = some (.lst xs) := by cases o <;> exact h
    cases h
    refine ⟨ys, ?_, Nat.le_succ _⟩
    have h' : (match xs[k]? with | some x => getO x π' | none => none) = some (.lst ys) := h'
    show (match (xs ++ [e])[k]? with | some x => getO x π' | none => none) = some (.lst ys)
    cases hk : xs[k]? with
    | none => rw [hk] at h'; cases h'
    | some x =>
      rw [hk] at h'
      rw [List.getElem?_append_left (List.getElem?_eq_some_iff.mp hk).1, hk]
      exact h'
  | k :: π, [], o, xs, ys, h, h' => by
    have h' : some o = some (.lst ys) := by cases o <;> exact h'
    cases h'
    show ∃ ys', getO (match ys[k]? with | some x => .lst (ys.set k (setO x π (.lst (xs ++ [e])))) | none => .lst ys) [] = some (.lst ys') ∧ _
    cases hk : ys[k]? with
    | none => exact ⟨ys, rfl, Nat.le_succ _⟩
    | some x => exact ⟨_, rfl, by rw [List.length_set]; exact Nat.le_succ _⟩
  | k :: π, k' :: π', .sh d, xs, ys, h, h' => nomatch h
  | k :: π, k' :: π', .lst zs, xs, ys, h, h' => by
    have h : (match zs[k]? with | some x => getO x π | none => none) = some (.lst xs) := h
    have h' : (match zs[k']? with | some x => getO x π' | none => none) = some (.lst ys) := h'
    show ∃ ys', getO (match zs[k]? with | some x => .lst (zs.set k (setO x π (.lst (xs ++ [e])))) | none => .lst zs) (k' :: π') = some (.lst ys') ∧ _
    cases hk : zs[k]? with
    | none => rw [hk] at h; cases h
    | some x =>
      rw [hk] at h
      show ∃ ys', (match (zs.set k (setO x π (.lst (xs ++ [e]))))[k']? with | some x => getO x π' | none => none) = some (.lst ys') ∧ _
      by_cases ek : k = k'
      · subst ek
        rw [hk] at h'
        rw [List.getElem?_set_self (List.getElem?_eq_some_iff.mp hk).1]
        exact get_app π π' x h h'
      · rw [List.getElem?_set_ne ek]
        exact ⟨ys, h', Nat.le_succ _⟩
  | k :: π, k' :: π', .dic t zs, xs, ys, h, h' => by
    have h : (match zs[k]? with | some x => getO x.2 π | none => none) = some (.lst xs) := h
    have h' : (match zs[k']? with | some x => getO x.2 π' | none => none) = some (.lst ys) := h'
    show ∃ ys', getO (match zs[k]? with | some z => .dic t (zs.set k (z.1, setO z.2 π (.lst (xs ++ [e])))) | none => .dic t zs) (k' :: π') = some (.lst ys') ∧ _
    cases hk : zs[k]? with
    | none => rw [hk] at h; cases h
    | some x =>
      rw [hk] at h
      show ∃ ys', (match (zs.set k (x.1, setO x.2 π (.lst (xs ++ [e]))))[k']? with | some x => getO x.2 π' | none => none) = some (.lst ys') ∧ _
      by_cases ek : k = k'
      · subst ek
        rw [hk] at h'
        rw [List.getElem?_set_self (List.getElem?_eq_some_iff.mp hk).1]
        exact get_app π π' x.2 h h'
      · rw [List.getElem?_set_ne ek]
        exact ⟨ys, h', Nat.le_succ _⟩
theorem set_none {δ : DS} {j : Nat} (h : δ[j]? = some none) : δ.set j none = δ := by
  refine List.ext_getElem? fun k => ?_
  by_cases e : j = k
  · subst e
    rw [List.getElem?_set_self (List.getElem?_eq_some_iff.mp h).1, h]
  · rw [List.getElem?_set_ne e]
/-- all have room: what one has becomes some other thing of one's own -/
theorem kick_ok {v : V} (hij : i ≠ j) : ∀ (πs : List (List Nat)) (δ : DS) (o : OD), j < δ.length → δ[i]? = some (some (.ow v o)) → (∀ π ∈ πs, ∃ xs, getO o π = some (.lst xs) ∧ xs.length + πs.length ≤ sizeLine) → (∀ o, W.nx ((δ.set j none).set i (some (.ow v o)))) → (πs = [] → W.nx δ) → kickD i j W πs δ
  | [], δ, o, hj, hi, h, hN, h0 => h0 rfl
  | π :: πs, δ, o, hj, hi, h, hN, h0 => by
    obtain ⟨xs, h1, h2⟩ := h π List.mem_cons_self
    have hl : i < δ.length := (List.getElem?_eq_some_iff.mp hi).1
    have g1 : getS δ i π = some (.lst xs) := by unfold getS; rw [hi]; exact h1
    have hi2 : (δ.set j none)[i]? = some (some (.ow v o)) := by rw [List.getElem?_set_ne (Ne.symm hij)]; exact hi
    unfold kickD lstAt
    rw [g1]
    refine ⟨by rw [List.length_cons] at h2; omega, ?_⟩
    rw [putS_at hi2]
    have e1 : (((δ.set j none).set i (some (.ow v (setO o π (.lst (xs ++ [.sh .non])))))).set j none) = (δ.set j none).set i (some (.ow v (setO o π (.lst (xs ++ [.sh .non]))))) := set_none (by rw [List.getElem?_set_ne hij, List.getElem?_set_self hj])
    refine kick_ok hij πs _ (setO o π (.lst (xs ++ [.sh .non]))) (by rw [List.length_set, List.length_set]; exact hj) (List.getElem?_set_self (by rw [List.length_set]; exact hl)) (fun π' hπ => ?_) (fun o2 => ?_) (fun _ => hN _)
    · obtain ⟨ys, a1, a2⟩ := h π' (List.mem_cons_of_mem _ hπ)
      obtain ⟨ys', b1, b2⟩ := get_app (e := .sh .non) π π' o h1 a1
      exact ⟨ys', b1, by rw [List.length_cons] at a2; omega⟩
    · rw [e1, List.set_set]
      exact hN o2
end
end DL
namespace DL
open PySem PySem.Spec PyProof.Rows L2 Evl PySem.W
section
variable {X : Cx} {B : Bx}
theorem bor_core4 {pins : List (Addr × Obj)} {σ : L2.St} {s : Shared} {H0 G H : Hp} {δ : DS} {i : Nat} {v : V} {o : OD} (I : Inv X pins σ H s) (j : Jn X.K B G H) (st : StOk X.K B H0 G H σ δ) (h1 : δ[i]? = some (some (.ow v o))) :
    ∃ G1 L, Inv X pins σ L s ∧ Jn X.K B G1 L ∧ StOk X.K B H0 G1 L σ (δ.set i (some (.sh o.toD))) ∧ (∀ a, L a = none → H a = none) ∧ ∀ σ2 s2 G2 H2, Inv X pins σ2 H2 s2 → Gr X.K B G1 L G2 H2 → ∃ U G3, Inv X pins σ2 U s2 ∧ Gr X.K B G H G3 U ∧ (∀ a, H a = none → (∀ q, H2 a ≠ some (LamX.CodeO a q)) → G3 a = none) ∧ (∀ a, H a = none → U a = H2 a) ∧ ∀ a vs, H2 a = some (.tup vs) → U a = some (.tup vs) := by
  obtain ⟨F, y⟩ := st.ex
  obtain ⟨e1, e2, e3, e4⟩ := y.ow h1
  obtain ⟨L, I2, l⟩ := lock_all (F i) I e3
  have hG : ∀ p ∈ F i, G p = none := fun p hp => (e2.node p hp).1
  have ex := frz_ex (G := G) (H := L) hG
  have nb : B.b ∉ F i := fun z => (e4 _ z).2.1.1 rfl
  have kinds := lkd_kinds l fun p hp => e2.node p hp
  have nf : ∀ p ∈ F i, ∀ o' u', X.H_0 p ≠ some (.frz o' u') := fun p hp => by
    rcases (e2.node p hp).2 with ⟨vs, a⟩ | ⟨vs, a⟩ | ⟨vs, a⟩ <;> exact I.nofrz a trivial
  have nn : ∀ a, ¬ B.nb a → a ∉ F i := fun a n z => n (e4 a z).2
  have xt : Xt B (frzG G L (F i)) L := j.next ex (fun a o n h => (l.out a (nn a n)).trans h) (fun a n _ => by unfold frzG; rw [if_neg (nn a n)]) (fun t h _ => by
    have nt : t.1 ∉ F i := fun z => (e4 _ z).2.tab t h rfl
    exact ⟨l.out _ nt, fun z => by unfold frzG; rw [if_neg nt]; exact z⟩) (fun a ps h => by
    by_cases ha : a ∈ F i
    · rcases kinds a ha with ⟨vs, _, b⟩ | ⟨u, od, _, b⟩ <;> rw [b] at h <;> cases h
    · rw [l.out a ha] at h
      exact ⟨_, h⟩)
  refine ⟨frzG G L (F i), L, I2, ⟨fun a u h => ?_, ?_, ?_, xt⟩, ?_, fun a h => ?_, fun σ2 s2 G2 H2 J g => ?_⟩
  · unfold frzG at h
    split at h
    · exact h
    · rename_i hn
      rw [l.out a hn]
      exact j.ex a u h
  · unfold frzG
    rw [if_neg nb]
    exact j.no
  · obtain ⟨a, b, c, ns, h1, h2, h3⟩ := j.bag
    exact ⟨a, b, c, ns, by rw [l.out _ nb]; exact h1, ex_l ex h2, h3⟩
  · have s3 := y.put (i := i) (List.getElem?_eq_some_iff.mp e1).1 ex (H2 := L) (fun p _ _ hp => ⟨l.out p hp, by unfold frzG; rw [if_neg hp]⟩) (.sh (e2.dat hG l fun p hp => hp)) fun p hp => nomatch hp
    rw [set_same e1] at s3
    exact ⟨_, s3⟩
  · by_cases ha : a ∈ F i
    · rcases kinds a ha with ⟨vs, _, b⟩ | ⟨u, od, _, b⟩ <;> rw [b] at h <;> cases h
    · rw [l.out a ha] at h
      exact h
  · have h2 : ∀ p ∈ F i, H2 p = L p := fun p hp => by
      rcases kinds p hp with ⟨vs, _, b⟩ | ⟨u, od, _, b⟩ <;> rw [b] <;> exact g.keep p _ (e4 p hp).2 b
    obtain ⟨U, J2, u1, u2⟩ := unlock_all (H := H) (L := L) (F i) J e3 kinds h2 nf
    refine ⟨U, codG G G2, J2, Gr.back j g ex l.out (fun p hp => ?_) (fun p hp => (e4 p hp).2) hG u1 u2, fun a h n => codG_none (fresh_back j.ex h) (fun q z => n q (g.j.ex _ _ z)), fun a h => u2 a fun z => (e2.node a z).at.ne h, fun a vs h => (u2 a fun z => ?_).trans h⟩
    rotate_left
    · rw [h2 a z] at h
      rcases kinds a z with ⟨vs, _, b⟩ | ⟨u, od, _, b⟩ <;> rw [b] at h <;> cases h
    rw [h2 p hp]
    rcases kinds p hp with ⟨vs, _, b⟩ | ⟨u, od, _, b⟩
    · exact ⟨_, b, ncod (nl rfl)⟩
    · exact ⟨_, b, ncod (nl rfl)⟩
def scalT : D → Bool
  | .tup ds => ds.all scal
  | d => scal d
/-- plain values and tuples of them are known again -/
theorem learn_all {K : PySem.W.Frag} {G0 G2 H2 : Hp} : ∀ {vs : List V} {ds : List D} {G U : Hp}, Gr K B G0 U G U → Dats K B G2 vs ds → Ex G2 H2 → (∀ a vs, H2 a = some (.tup vs) → U a = some (.tup vs)) → ds.all scalT = true → ∃ G4, Gr K B G U G4 U ∧ Dats K B G4 vs ds ∧ ∀ p, G p = none → (∀ vs, U p ≠ some (.tup vs)) → G4 p = none
  | _, _, G, U, g, .nil, _, _, _ => ⟨G, Gr.refl g.j, .nil, fun _ h _ => h⟩
  | _, _, G, U, g, .cons (v := v) (d := d) (ds := ds) h t, e, tu, s => by
    rw [List.all_cons, Bool.and_eq_true] at s
    have one : ∃ G4, Gr K B G U G4 U ∧ Dat K B G4 v d ∧ ∀ p, G p = none → (∀ vs, U p ≠ some (.tup vs)) → G4 p = none := by
      by_cases sc : scal d = true
      · exact ⟨G, Gr.refl g.j, scal_dat h sc, fun _ h _ => h⟩
      · cases d with
        | tup ds =>
          cases h with
          | @tup a xs _ ga hx =>
            have ua := tu a xs (e _ _ ga)
            have hx3 := scal_dats (G2 := G) hx s.1
            cases e3 : G a with
            | none =>
              refine ⟨_, Gr.learn g.j ua e3, .tup upd_same (hx3.mono (Ex.new e3)), fun p hp hu => ?_⟩
              rw [upd_ne fun z => hu xs (by rw [z]; exact ua)]
              exact hp
            | some o' =>
              have := g.j.ex _ _ e3
              rw [ua] at this
              cases this
              exact ⟨G, Gr.refl g.j, .tup e3 hx3, fun _ h _ => h⟩
        | _ => exact absurd s.1 sc
    obtain ⟨G4, a1, a2, a3⟩ := one
    obtain ⟨G5, b1, b2, b3⟩ := learn_all (g.trans a1) t e tu s.2
    exact ⟨G5, a1.trans b1, .cons (a2.mono b1.ex) b2, fun p hp hu => b3 p (a3 p hp hu) hu⟩
end
end DL
namespace DL
open PySem PySem.Spec PyProof.Rows L2 Evl PySem.W
end DL
namespace DL
open PySem PySem.Spec PyProof.Rows L2 Evl PySem.W
end DL
namespace DL
open PySem PySem.Spec PyProof.Rows L2 Evl
def inQ (neg : Bool) (Q : D → Prop) (z : D) : Prop := match z with
  | .bl b => Q (.bl (cond neg (!b) b))
  | _ => False
def oInO (neg : Bool) (C : Nat) (S : FD) : O2 := fun x y Q => isO C y ∧ S [y, x] (inQ neg Q)
section
variable {X : Cx} {B : Bx} {g : Addr} {C k : Nat} {S : FD}
theorem inO_core {neg : Bool} {pins : List (Addr × Obj)} {s : Shared} {σ : L2.St} {H : Hp} {x y : V} {v u : Value} {P : VK} {op : CmpOp}
    (rule : ∀ {a dx : Addr} {ws : List V}, u = .ref a → SlX.Slt H a (B.ct C) dx (ws.map some) → wpAny (model X.prog X.w) X.A (call (.ref g) [.ref a, v]) (fun r s' => ∃ b, r = .bool b ∧ EP X pins σ P (.bool (cond neg (!b) b)) s') X.xe s → wpAny (model X.prog X.w) X.A (compareOp op v u) (EP X pins σ P) X.xe s)
    (F : FnR X.prog X.w X.K X.mg X.base CX0 k g (spD X.K B S)) (hr : Room k X.A) (I : Inv X pins σ H s) (rx : RelV x v) (ry : RelV y u) (q : rLift X.K B (oInO neg C S) x y H P) : wpAny (model X.prog X.w) X.A (compareOp op v u) (EP X pins σ P) X.xe s := by
  obtain ⟨G, dx, dy, Q, j, hx, hy, ⟨o1, hq⟩, kk⟩ := q
  cases hy with
  | @obj a d1 C1 vs fs h3 h4 h5 =>
    have o1 : C1 = C := o1
    subst o1
    cases (show u = Value.ref a from ry)
    refine rule rfl (obj_slt (K := X.K) (B := B) j.ex h3 h4) ?_
    refine wpAny_mono (wpAny_call (run_fnR (E := E0) (us := [.ref a, v]) (vs := [.ref a, x]) F hr pass0 I (.cons rfl (.cons rx .nil)) (Q := fun z H' => ∃ b, z = .bl b ∧ P (.bl (cond neg (!b) b)) H') ⟨G, _, _, j, .cons (.obj h3 h4 h5) (.cons hx .nil), hq, fun d w G2 H2 q2 g2 h2 => ?_⟩)) (fun w s' z => ?_) fun _ _ x => x
    · cases h2 with
      | bl b => exact ⟨b, rfl, kk _ _ G2 H2 q2 g2 (.bl _)⟩
      | _ => exact q2.elim
    · obtain ⟨z', H', I', rz, b, rfl, qz⟩ := z
      cases (show w = Value.bool b from rz)
      exact ⟨b, rfl, .bl (cond neg (!b) b), H', I', rfl, qz⟩
  | _ => exact o1.elim
theorem op_inO (hs : PySem.W.findIn X.K (.ref (B.ct C)) "__contains__" = some (some (.ref g))) (hf : PySem.W.isFn X.K (.ref g) = true) (F : FnR X.prog X.w X.K X.mg X.base CX0 k g (spD X.K B S)) (hr : Room k X.A) : OpR X (compareOp .In) (rLift X.K B (oInO false C S)) := by
  intro pins s σ H x y v u P I rx ry q
  refine inO_core (fun {a dx ws} e hsl hw => ?_) F hr I rx ry q
  subst e
  obtain ⟨sl, od, _, J, _⟩ := SlX.slt_inst I hsl
  obtain ⟨mm, hF⟩ := I.fr
  refine PySem.W.in_K hF I.ok.mod.kin J hs hf (wpAny_mono hw (fun r s' z => ?_) fun _ _ z => z)
  obtain ⟨b, rfl, z⟩ := z
  exact wpAny_truthy_bool z
theorem op_notInO (hs : PySem.W.findIn X.K (.ref (B.ct C)) "__contains__" = some (some (.ref g))) (hf : PySem.W.isFn X.K (.ref g) = true) (F : FnR X.prog X.w X.K X.mg X.base CX0 k g (spD X.K B S)) (hr : Room k X.A) : OpR X (compareOp .NotIn) (rLift X.K B (oInO true C S)) := by
  intro pins s σ H x y v u P I rx ry q
  refine inO_core (fun {a dx ws} e hsl hw => ?_) F hr I rx ry q
  subst e
  obtain ⟨sl, od, _, J, _⟩ := SlX.slt_inst I hsl
  obtain ⟨mm, hF⟩ := I.fr
  refine PySem.W.notIn_K hF I.ok.mod.kin J hs hf (wpAny_mono hw (fun r s' z => ?_) fun _ _ z => z)
  obtain ⟨b, rfl, z⟩ := z
  exact wpAny_truthy_bool z
end
section
variable {C c : Nat} {S : FD} {Q : D → Prop} {x : D} {fs : List D} {b : Bool}
theorem z_inO : oInO false C S x (.obj c fs) Q = (c = C ∧ S [.obj c fs, x] (inQ false Q)) := propext Iff.rfl
theorem z_ninO : oInO true C S x (.obj c fs) Q = (c = C ∧ S [.obj c fs, x] (inQ true Q)) := propext Iff.rfl
theorem z_inQ : inQ false Q (.bl b) = Q (.bl b) := propext Iff.rfl
theorem z_ninQ : inQ true Q (.bl b) = Q (.bl (!b)) := propext Iff.rfl
end
def rIsiO2 (K : PySem.W.Frag) : List V → Hp → VK → Prop := fun xs H Q => ∃ (a C dx : Addr) (vs : List (Option V)) (tp : Addr) (cs : List V) (us : List Value) (b : Bool), xs = [V.ref a, .ref tp] ∧ SlX.Slt H a C dx vs ∧ SlX.SCls K C ∧ SlX.SIsi K C ∧ H tp = some (.tup cs) ∧ Paired ClsV cs us ∧ PySem.W.kitAny K (.ref C) us = some b ∧ Q (.bl b) H
theorem call_isiO2 {X : Cx} : CallR X (.builtin "isinstance") (fun xs H Q => rIsiO2 X.K xs H Q ∨ rIsi2 X.K xs H Q) := by
  intro pins s σ H xs us Q I r h
  rcases h with h | h
  · obtain ⟨a, C, dx, vs, tp, cs, ws, b, rfl, hsl, hc, hi, hT, k, e, q⟩ := h
    obtain ⟨u1, u2, rfl, r1, r2⟩ := vals2 r
    cases (show u1 = Value.ref a from r1)
    cases (show u2 = Value.ref tp from r2)
    obtain ⟨_, its, rv, o2, g1, g2, n, g3⟩ := (show ObjOk X.prog X.w H s.heap tp (.tup cs) from I.hok tp _ hT)
    have e3 := ClsV.all k rv
    subst e3
    obtain ⟨oc, od2, dt, sl2⟩ := o2
    simp only at g2 g3
    subst g2 g3
    obtain ⟨sl, od, _, J, _⟩ := SlX.slt_inst I hsl
    exact PySem.W.kia_tup (OwX.kitx_slt hc.ic (hc.get _) hi.ca hi.cn hi.ct hi.cm) I.kIn J g1 e (fun z => nomatch z) fun tk => ⟨.bl b, H, I.tok tk, rfl, q⟩
  · exact call_isi2 pins s σ H xs us Q I r h
theorem kitO2 {K : PySem.W.Frag} {C : Addr} {T U : String} (h1 : PySem.W.kitOne K (.ref C) (.type T) = some false) (h2 : PySem.W.kitOne K (.ref C) (.type U) = some false) : PySem.W.kitAny K (.ref C) [.type T, .type U] = some false :=
  kitAny_cons (b := false) h1 (fun _ => kitAny_cons (b := false) h2 (fun _ => kitAny_nil) (fun hx => nomatch hx)) (fun hx => nomatch hx)
def isi2A (T U : String) (L : List Nat) (d : D) (Q : D → Prop) : Prop := match d with
  | .obj c _ => c ∈ L ∧ Q (.bl false)
  | d => pureD (seqK d) = true ∧ Q (.bl (isi2 T U d))
def dIsi2A (T U : String) (L : List Nat) (r : DE) : DE := fun δ Q => r δ fun d => isi2A T U L d Q
theorem pd_isi2A {X : Cx} {B : Bx} {e : Expr} {r : DE} {pos : Pos} {T U : String} {L : List Nat} {tn un : Str} {p q q2 pt : Pos} {x1} (kn : knownTy T) (kn2 : knownTy U) (hT : T ∈ obTs) (hU : U ∈ obTs) (ho : ∀ c ∈ L, ObjC X.K (B.ct c)) (hg : Gl X "isinstance") (hm : X.mg "isinstance" = none) (hgT : Gl X tn) (hmT : X.mg tn = none) (hvT : bootBuiltins tn = some (.type T)) (hgU : Gl X un) (hmU : X.mg un = none) (hvU : bootBuiltins un = some (.type U)) (he : PD X B e r)
    (hn : tn ≠ "__name__" := by decide) (hdb : (tn == ("__debug__" : Str)) = false := by decide) (hn2 : un ≠ "__name__" := by decide) (hdb2 : (un == ("__debug__" : Str)) = false := by decide)
    (hs1 : starEach [e, .Tuple [.Name tn q, .Name un q2] x1 pt] X.env = (false, eval e X.env) :: starEach [.Tuple [.Name tn q, .Name un q2] x1 pt] X.env := by rfl) (hs2 : starEach [.Tuple [.Name tn q, .Name un q2] x1 pt] X.env = (false, eval (.Tuple [.Name tn q, .Name un q2] x1 pt) X.env) :: starEach [] X.env := by rfl)
    (hs3 : starEach [.Name tn q, .Name un q2] X.env = (false, eval (.Name tn q) X.env) :: starEach [.Name un q2] X.env := by rfl) (hs4 : starEach [.Name un q2] X.env = (false, eval (.Name un q2) X.env) :: starEach [] X.env := by rfl)
    (hpl : (backTo pos (starEach [.Tuple [.Name tn q, .Name un q2] x1 pt] X.env)).any (·.1) = false := by rfl) :
    PD X B (.Call (.Name "isinstance" p) [e, .Tuple [.Name tn q, .Name un q2] x1 pt] [] pos) (dIsi2A T U L r) := pe_mono (pe_callB call_isiO2 hg hm (by decide +kernel) (pa_cons he (pa_cons (pe_tup (pa_cons (pe_bltn (v := .ty T) hgT hmT hvT rfl hn hdb) (pa_cons (pe_bltn (v := .ty U) hgU hmU hvU rfl hn2 hdb2) pa_nil hs4) hs3)) pa_nil hs2) hs1) (by decide) (by decide) hs1 hpl) fun σ H P q => by
  obtain ⟨H0, G, δ, Q, j, st, hr, k⟩ := q
  refine ⟨H0, G, δ, _, j, st, hr, fun d v G2 H2 q2 g2 h2 => ?_⟩
  refine ⟨by show 2 ≤ sizeLine; decide, fun t ht => ?_⟩
  have g3 := Gr.new0 (o := .tup [.ty T, .ty U]) g2.j ht
  have pure_ : pureD (seqK d) = true ∧ Q (.bl (isi2 T U d)) → rIsiO2 X.K [v, .ref t] (upd H2 t (.tup [.ty T, .ty U])) P ∨ rIsi2 X.K [v, .ref t] (upd H2 t (.tup [.ty T, .ty U])) P := fun ⟨hp, q3⟩ =>
    .inr ⟨v, t, _, tyN (seqK d), _, _, rfl, upd_same, .cons (.ty T) (.cons (.ty U) .nil), ty_k g3.j.ex h2 hp, kit2 (kn _ hp) (kn2 _ hp), k _ _ G2 _ q3 (g2.trans g3) (.bl _)⟩
  cases h2 with
  | @obj a dx c' vs fs h3 h4 h5 =>
    obtain ⟨hm, q3⟩ := q2
    have oc := ho _ hm
    exact .inl ⟨a, _, dx, _, t, _, _, false, rfl, obj_slt (K := X.K) (B := B) g3.j.ex h3 h4, oc.c, oc.si, upd_same, .cons (.ty T) (.cons (.ty U) .nil), kitO2 (oc.kit _ hT) (oc.kit _ hU), k _ _ G2 _ q3 (g2.trans g3) (.bl _)⟩
  | _ => exact pure_ q2
section
variable {T U : String} {c : Nat} {L : List Nat} {Q : D → Prop} {r : DE} {δ : DS} {fs xs : List D} {kvs : List (D × D)} {b : Bool} {i : Int} {x : Str}
theorem z_isi2A : dIsi2A T U L r δ Q = r δ fun d => isi2A T U L d Q := propext Iff.rfl
theorem z_isi2Ao : isi2A T U L (.obj c fs) Q = (c ∈ L ∧ Q (.bl false)) := propext Iff.rfl
theorem z_isi2An : isi2A T U L .non Q = Q (.bl (isi2 T U .non)) := propext ⟨fun h => h.2, fun h => ⟨rfl, h⟩⟩
theorem z_isi2Ab : isi2A T U L (.bl b) Q = Q (.bl (isi2 T U (.bl b))) := propext ⟨fun h => h.2, fun h => ⟨rfl, h⟩⟩
theorem z_isi2Ai : isi2A T U L (.int i) Q = Q (.bl (isi2 T U (.int i))) := propext ⟨fun h => h.2, fun h => ⟨rfl, h⟩⟩
theorem z_isi2As : isi2A T U L (.str x) Q = Q (.bl (isi2 T U (.str x))) := propext ⟨fun h => h.2, fun h => ⟨rfl, h⟩⟩
theorem z_isi2Al : isi2A T U L (.lst xs) Q = Q (.bl (isi2 T U (.lst xs))) := propext ⟨fun h => h.2, fun h => ⟨rfl, h⟩⟩
theorem z_isi2At : isi2A T U L (.tup xs) Q = Q (.bl (isi2 T U (.tup xs))) := propext ⟨fun h => h.2, fun h => ⟨rfl, h⟩⟩
theorem z_isi2Ak : isi2A T U L (.ktup xs) Q = Q (.bl (isi2 T U (.ktup xs))) := propext ⟨fun h => h.2, fun h => ⟨rfl, h⟩⟩
theorem z_isi2Ad : isi2A T U L (.dic kvs) Q = Q (.bl (isi2 T U (.dic kvs))) := propext ⟨fun h => h.2, fun h => ⟨rfl, h⟩⟩
end
end DL
namespace DL
open PySem PySem.Spec PyProof.Rows L2 Evl LamX
end DL
namespace DL
open PySem PySem.Spec PyProof.Rows L2 Evl
end DL
namespace DL
open PySem PySem.Spec PyProof.Rows L2 Evl
end DL
namespace DL
open PySem PySem.Spec PyProof.Rows L2 Evl
end DL
namespace DL
open PySem PySem.Spec PyProof.Rows L2 Evl
end DL
namespace DL
open PySem PySem.Spec PyProof.Rows L2 Evl
end DL
namespace DL
open PySem PySem.Spec PyProof.Rows L2 Evl
section
variable {X : Cx} {B : Bx} {a b c : Expr} {ra rb : OE} {t : DT} {pos : Pos} {δ : DS} {Q : OD → Prop}
def iteO (b : Bool) (ra rb : OE) (δ : DS) (Q : OD → Prop) : Prop := if b = true then ra δ Q else rb δ Q
theorem iteO_t : iteO true ra rb δ Q = ra δ Q := propext Iff.rfl
theorem iteO_f : iteO false ra rb δ Q = rb δ Q := propext Iff.rfl
end
end DL
namespace DL
open PySem PySem.Spec PyProof.Rows L2 Evl
end DL
namespace DL
open PySem PySem.Spec PyProof.Rows L2 Evl
namespace Two
open PySem.NumText PySem.Calls
/-- a text that is read as a number in base two -/
structure Reads (x : Str) (k : Int) : Prop where
  short : (numSeenOf x).length ≤ 640
  val : (int_private% "readNumeral") 0 2 (numSeenOf x) = (int_private% "Numeral.value") k
  whole : ((numSeenOf x).length == (numTextOf x).length) = true
end Two
end DL
namespace DL
open PySem PySem.Spec PyProof.Rows L2 Evl
end DL
namespace DL
open PySem PySem.Spec PyProof.Rows L2 Evl PySem.W
end DL
namespace DL
open PySem PySem.Spec PyProof.Rows L2 Evl
theorem Owns.pop {K : PySem.W.Frag} {B : Bx} {G H : Hp} {d : D} : ∀ {xs : List OD} {vs : List V} {f : List Addr}, Owns K B G H vs (xs ++ [OD.sh d]) f → ∃ u, vs[vs.length - 1]? = some u ∧ Dat K B G u d ∧ vs ≠ [] ∧ Owns K B G H vs.dropLast xs f
  | [], _, _, h => by
    cases h with
    | cons h1 h2 =>
      cases h2
      cases h1 with
      | sh hd => exact ⟨_, rfl, hd, by simp, .nil⟩
  | x :: xs, _, _, h => by
    cases h with
    | @cons v o f vs os g h1 h2 =>
      obtain ⟨u, a, b, c, e⟩ := Owns.pop h2
      obtain ⟨w, ws, rfl⟩ : ∃ w ws, vs = w :: ws := by
        cases vs with
        | nil => exact absurd rfl c
        | cons w ws => exact ⟨w, ws, rfl⟩
      refine ⟨u, ?_, b, by simp, ?_⟩
      · simpa using a
      · exact .cons h1 e
end DL
namespace DL
open PySem PySem.Spec PyProof.Rows L2 Evl
end DL
namespace PySem.SeqAt
open AutoSeq1 (wpAny_loadPart')
open MeetsSeq
end PySem.SeqAt
namespace DL
open PySem PySem.Spec PyProof.Rows L2 Evl
end DL
namespace DL
open PySem PySem.Spec PyProof.Rows L2 Evl
end DL
namespace DL
open PySem PySem.Spec PyProof.Rows L2 Evl
end DL
namespace DL
open PySem PySem.Spec PyProof.Rows L2 Evl
end DL
namespace L2
open PySem PySem.Spec PyProof.Rows PySem.W
end L2
namespace DL
open PySem PySem.Spec PyProof.Rows L2 Evl
end DL
namespace L2
open PySem PySem.Spec PyProof.Rows PySem.W
end L2
namespace DL
open PySem PySem.Spec PyProof.Rows L2 Evl
end DL
namespace DL
open PySem PySem.Spec PyProof.Rows L2 Evl
/-- dead when the frame began, and no cell -/
def deads (X : Cx) : List Addr := (List.range X.s_0.heap.objs.size).filter fun b => (X.s_0.heap.get? b).isNone && X.env.cells.all fun p => X.env.cells.lookup p.1 != some b
abbrev exx (X : Cx) : Cx := { X with ex := deads X ++ X.ex }
theorem lookup_in {α β : Type} [BEq α] [LawfulBEq α] {l : List (α × β)} {x : α} {c : β} (h : l.lookup x = some c) : (x, c) ∈ l := by
  induction l with
  | nil => cases h
  | cons p l ih =>
    obtain ⟨a, b⟩ := p
    rw [List.lookup_cons] at h
    by_cases e : x == a
    · rw [e] at h
      cases h
      rw [beq_iff_eq.mp e]
      exact List.mem_cons_self
    · have e : (x == a) = false := by simpa using e
      rw [e] at h
      exact List.mem_cons_of_mem _ (ih h)
theorem mem_deads {X : Cx} {b : Addr} : b ∈ deads X ↔ b < X.s_0.heap.objs.size ∧ X.s_0.heap.get? b = none ∧ ∀ x c, X.env.cells.lookup x = some c → c ≠ b := by
  unfold deads
  rw [List.mem_filter, List.mem_range, Bool.and_eq_true, Option.isNone_iff_eq_none, List.all_eq_true]
  constructor
  · rintro ⟨h1, h2, h3⟩
    refine ⟨h1, h2, fun x c e z => ?_⟩
    have := h3 _ (lookup_in e)
    subst z
    simp only [e, bne_self_eq_false] at this
    cases this
  · rintro ⟨h1, h2, h3⟩
    refine ⟨h1, h2, fun p _ => ?_⟩
    rw [bne_iff_ne]
    exact fun e => h3 _ _ e rfl
section
variable {X : Cx} {pins : List (Addr × Obj)} {σ : L2.St} {H : Hp} {s : Shared}
theorem un_exx {fs ex ds : List Addr} {H H' : Hp} {h h' : Heap} (hd : ∀ b ∈ ds, h.get? b = none) : Un fs ex H H' h h' ↔ Un fs (ds ++ ex) H H' h h' := by
  have no : ∀ {b o}, h.get? b = some o → b ∉ ex → b ∉ ds ++ ex := fun e n z => (List.mem_append.mp z).elim (fun q => by rw [hd _ q] at e; cases e) n
  have ni : ∀ {b : Addr}, b ∉ ds ++ ex → b ∉ ex := fun n z => n (List.mem_append_right _ z)
  exact ⟨fun u => ⟨fun b o e n f x => u.keep b o e n f (ni x), fun b o e n f x => u.slot b o e n f (ni x), fun b o e n x => u.free b o e n (ni x), fun b o e x => u.there b o e (ni x), u.tups, u.frzs, u.tbls⟩,
    fun u => ⟨fun b o e n f x => u.keep b o e n f (no e x), fun b o e n f x => u.slot b o e n f (no e x), fun b o e n x => u.free b o e n (no e x), fun b o e x => u.there b o e (no e x), u.tups, u.frzs, u.tbls⟩⟩
theorem ok_exx (ok : X.Ok) : (exx X).Ok where
  mod := ok.mod
  kind := ok.kind
  glob := ok.glob
  blt := ok.blt
  above := ok.above
  inj := ok.inj
  has := ok.has
  cab := ok.cab
  hd := ok.hd
  frames := ok.frames
  stk := ok.stk
  exf := fun b hb => by
    rcases List.mem_append.mp hb with h | h
    · obtain ⟨h1, h2, h3⟩ := mem_deads.mp h
      exact ⟨fun z => by have := ok.above; rw [← z] at this; exact absurd h1 (Nat.not_lt.mpr this), h3⟩
    · exact ok.exf b h
  bs := ok.bs
  bsz := ok.bsz
  noex := fun b o e hb => by
    rcases List.mem_append.mp hb with h | h
    · have h1 := (ok.bs b o e).1
      have h2 := (mem_deads.mp h).2.1
      rw [h2] at h1
      cases h1
    · exact ok.noex b o e h
  exfs := fun b hb z => by
    rcases List.mem_append.mp hb with h | h
    · obtain ⟨_, o, ho, _⟩ := ok.funs.mem z
      rw [(mem_deads.mp h).2.1] at ho
      cases ho
    · exact ok.exfs b h z
  funs := ok.funs
  frf := ok.frf
theorem inv_exx (I : Inv X pins σ H s) : Inv (exx X) pins σ H s := ⟨ok_exx I.ok, I.os, I.bare, (un_exx fun b h => (mem_deads.mp h).2.1).mp I.base, I.loc, I.cell, I.free, I.freeC, I.pin, I.hok, I.len⟩
theorem inv_unx (ok : X.Ok) (I : Inv (exx X) pins σ H s) : Inv X pins σ H s := ⟨ok, I.os, I.bare, (un_exx fun b h => (mem_deads.mp h).2.1).mpr I.base, I.loc, I.cell, I.free, I.freeC, I.pin, I.hok, I.len⟩
theorem pss_exx {b : List Stmt} {t : TS} (h : PSs (exx X) b t) : PSs X b t := ⟨fun pins s σ H D I q => thn (h.run pins s σ H D (inv_exx I) q) fun f s' z => by
  cases f with
  | next => obtain ⟨σ', H', I', z⟩ := z; exact ⟨σ', H', inv_unx I.ok I', z⟩
  | brk => obtain ⟨σ', H', I', z⟩ := z; exact ⟨σ', H', inv_unx I.ok I', z⟩
  | cont => obtain ⟨σ', H', I', z⟩ := z; exact ⟨σ', H', inv_unx I.ok I', z⟩
  | ret u => obtain ⟨v, σ', H', I', r, z⟩ := z; exact ⟨v, σ', H', inv_unx I.ok I', r, z⟩⟩
theorem pssd_exx {B : Bx} {b : List Stmt} {t : DTS} (h : PSsD (exx X) B b t) : PSsD X B b t := pss_exx h
/-- the callee runs; what it left alone is told too -/
theorem call_fnU {n : Nat} {f : Addr} {sp : Sp} {A1 : Around} {us : List Value} {vs : List V} {Q : VK} {E : Value → Shared → Prop} (F : FnR X.prog X.w X.K X.mg X.base CX0 n f sp) (sb : Sub X n A1) (I : Inv X pins σ H s) (r : Vals vs us) (h : sp vs H Q E0) :
    wpAny (model X.prog X.w) A1 (call (.ref f) us) (fun v s' => EP X pins σ (fun x H' => Q x H' ∧ (∀ b o, s.heap.get? b = some o → H b = none → H' b = none)) v s') E s := by
  have e := I.env0
  have e0 : Env0 X.prog X.w X.K X.mg X.base A1 X.stack s H := ⟨by rw [sb.fr]; exact e.frames, e.mod, e.bs, e.bsz, e.funs, e.frf, e.hok, e.bare⟩
  refine wpAny_call (codeAny_mono (F A1 X.stack s H us vs Q E0 sb.room e0 r h) fun r s' hq => ?_)
  cases r with
  | error e => exact False.elim hq
  | ok fl =>
    cases fl with
    | ret u =>
      refine I.after ?_
      obtain ⟨v, H', os, bare, un, hok, rl, q⟩ := hq
      exact ⟨v, H', os, bare, un, hok, rl, q, fun b o e n => un.free b o e n (by simp)⟩
    | next => exact False.elim hq
    | brk => exact False.elim hq
    | cont => exact False.elim hq
end
def iOwn (C i : Nat) (r : DE) : DA := fun δ Q => r δ fun d => match fldL C i d with
  | some ds => Q ds
  | none => False
section
variable {X0 : Cx} {B : Bx} {C i k : Nat} {gi : Addr} {e : Expr} {r : DE} {tg : Expr}
theorem pid_own (hi : Meth X0.K (B.ct C) "__iter__" gi) (FI : FnR X0.prog X0.w X0.K X0.mg X0.base CX0 k gi (spIt X0.K B C i)) (hr : Room (k + 1) X0.A) (he : PD (exx X0) B e r) : PID (exx X0) B tg e (iOwn C i r) := by
  refine ⟨fun pins s σ H R I h => ?_⟩
  obtain ⟨H0, G, δ, Q, j, st, hr', kk⟩ := h
  refine thn (he.run pins s σ H (fun x H1 => ∃ G2 d, (match fldL C i d with | some ds => Q ds | none => False) ∧ Gr X0.K B G H G2 H1 ∧ Dat X0.K B G2 x d) I ⟨H0, G, δ, _, j, st, hr', fun d v G2 H2 q2 g2 h2 => ⟨G2, d, q2, g2, h2⟩⟩) fun v s1 ⟨x, H1, I1, r1, q1⟩ => ?_
  obtain ⟨G2, d, q2, g2, h2⟩ := q1
  cases hf : fldL C i d with
  | none => rw [hf] at q2; exact q2.elim
  | some ds =>
    rw [hf] at q2
    have hx : ∃ a, x = .ref a := by cases h2 <;> first | exact ⟨_, rfl⟩ | cases hf
    obtain ⟨a, rfl⟩ := hx
    obtain ⟨dx, vs, l0, xs0, h3, h4, _, _, _⟩ := fldL_obj h2 hf
    cases (show v = Value.ref a from r1)
    have ha := obj_slt (K := X0.K) (B := B) g2.j.ex h3 h4
    obtain ⟨sl, od, _, J, _⟩ := SlX.slt_inst I1 ha
    obtain ⟨m0, hF⟩ := I1.fr
    refine PySem.W.owit_iter hF I1.ok.mod.kin J hi.at_ hi.fn ?_
    have sb : Sub (exx X0) k (exx X0).A := ⟨hr.mono (Nat.le_succ k), rfl⟩
    have hsp : spIt X0.K B C i [.ref a] H1 (fun v H' => ∃ it l xs, v = .ref it ∧ H1 it = none ∧ G2 l = some (.lst xs) ∧ Dats X0.K B G2 xs ds ∧ H' = upd H1 it (ItO l it 0)) E0 := ⟨G2, a, d, ds, rfl, g2.j, h2, hf, fun it l xs z1 z2 z3 => ⟨it, l, xs, rfl, z1, z2, z3, rfl⟩⟩
    refine wpAny_mono (call_fnU (X := exx X0) FI sb I1 (us := [.ref a]) (vs := [V.ref a]) (.cons rfl .nil) hsp) (fun v s2 z => ?_) fun _ _ z => z
    obtain ⟨v', H2, I2, rv, ⟨it, l, xs, rfl, hn, hl, hds, rfl⟩, fr⟩ := z
    cases (show v = Value.ref it from rv)
    have hit : upd H1 it (ItO l it 0) it = some (ItO l it 0) := upd_same
    have ob := itO_get I2 hit
    have hT : s2.TypeIs (.ref it) "list_iterator" := ⟨_, ob, rfl⟩
    unfold PySem.W.OwitIt
    refine wpAny_specialOf hT slot_listiter_next.lookup ?_
    have dead : s1.heap.get? it = none := by
      cases e : s1.heap.get? it with
      | none => rfl
      | some o =>
        have := fr it o e hn
        rw [hit] at this
        cases this
    have I3 := ItX.inv_drop I2 hit
    rw [ItX.dropH_upd hn] at I3
    have old : ∀ o, X0.s_0.heap.get? it = some o → it ∉ X0.ex → False := fun o e n => by
      obtain ⟨o', e'⟩ := I1.base.there it o e fun z => (List.mem_append.mp z).elim (fun q => by rw [(mem_deads.mp q).2.1] at e; cases e) n
      rw [dead] at e'
      cases e'
    refine ⟨it, [it], _, Itl X0.K l, H1, rfl, I3, turn_list l it, ⟨_, ob, rfl, rfl⟩, fun b hb => ?_, kk ds _ G2 H1 q2 g2 (itd_list hl hds)⟩
    have e : b = it := by simpa using hb
    subst e
    refine ⟨hn, fun z => ?_, fun z => ?_, ?_, fun x c e z => ?_, fun p hp z => ?_⟩
    · have q := I2.free
      rw [← z, hit] at q
      cases q
    · obtain ⟨_, o, ho, _⟩ := I1.ok.funs.mem z
      exact old o ho fun q => I1.ok.exfs b (List.mem_append_right _ q) z
    · by_cases hx : b ∈ X0.ex
      · exact .inl (List.mem_append_right _ hx)
      by_cases hz : X0.s_0.heap.objs.size ≤ b
      · exact .inr hz
      · refine .inl (List.mem_append_left _ (mem_deads.mpr ⟨Nat.lt_of_not_le hz, ?_, fun x c e z => ?_⟩))
        · cases e : X0.s_0.heap.get? b with
          | none => rfl
          | some o => exact (old o e hx).elim
        · have q := I2.freeC x c e
          rw [z, hit] at q
          cases q
    · have q := I2.freeC x c e
      rw [z, hit] at q
      cases q
    · have q := (I2.pin p hp).2.1
      rw [z, hit] at q
      cases q
end
section
variable {C i : Nat} {r : DE} {δ : DS} {QL : List D → Prop} {d : D}
def ownL (C i : Nat) (d : D) (Q : List D → Prop) : Prop := match fldL C i d with
  | some ds => Q ds
  | none => False
theorem z_iOwn : iOwn C i r δ QL = r δ fun d => ownL C i d QL := propext Iff.rfl
theorem ownL_ok {ds : List D} (h : fldL C i d = some ds) (q : QL ds) : ownL C i d QL := by
  unfold ownL
  rw [h]
  exact q
end
end DL
namespace DL
open PySem PySem.Spec PyProof.Rows L2 Evl
def ixO (o : OD) (d : D) (Q : OD → Prop) : Prop := match o, d with
  | .lst os, .int i => 0 ≤ i ∧ match os[i.toNat]? with
    | some o' => Q o'
    | none => False
  | _, _ => False
def oIxO (r : OE) (ri : DE) : OE := fun δ Q => r δ fun o => ri δ fun d => ixO o d Q
section
variable {X : Cx} {B : Bx} {a b : Expr} {ro : OE} {rb : DE} {pos : Pos}
theorem po_ixO (ha : PO X B a ro) (hb : PD X B b rb) (hs : PlainIx b := by intro _ _; rfl) : PO X B (.Subscript a b pos) (oIxO ro rb) := pe_mono (pe_ix ix_list ha hb hs) fun σ H P q => by
  obtain ⟨H0, G, δ, Q, j, st, hr, k⟩ := q
  refine ⟨H0, G, δ, _, j, st, hr, fun o v f G2 H2 q2 g2 h2 f2 => ?_⟩
  refine ⟨H0, G2, δ, _, g2.j, st.gr g2, q2, fun d y G3 H3 q3 g3 d3 => ?_⟩
  have h3 := h2.gr g3 fun p hp => (f2.2 p hp).2
  cases o with
  | lst os =>
    cases d3 with
    | int i =>
      obtain ⟨i0, q3⟩ := (show 0 ≤ i ∧ (match os[i.toNat]? with | some o' => Q o' | none => False) from q3)
      cases e : os[i.toNat]? with
      | none => rw [e] at q3; exact q3.elim
      | some o' =>
        rw [e] at q3
        cases h3 with
        | lst hp gp hs =>
          obtain ⟨u, f1, fk, f3, eu, ef, ou, _⟩ := hs.at e
          have nd := (List.nodup_cons.mp f2.1).2
          rw [ef] at nd
          refine ⟨_, _, i, u, rfl, rfl, sq_of hp, atI_q i0 eu, k o' u fk G3 H3 q3 (g2.trans g3) ou ⟨((List.nodup_append.mp (List.nodup_append.mp nd).2.1)).1, fun p hp => f2.2 p (List.mem_cons_of_mem _ ?_)⟩⟩
          rw [ef]
          exact List.mem_append_right _ (List.mem_append_left _ hp)
    | _ => exact q3.elim
  | _ => cases d3 <;> exact q3.elim
end
section
variable {δ : DS} {QO : OD → Prop} {ro : OE} {rb : DE} {os : List OD} {i : Int}
theorem z_oIxO : oIxO ro rb δ QO = ro δ fun o => rb δ fun d => ixO o d QO := propext Iff.rfl
theorem ixO_ok {o : OD} (h0 : 0 ≤ i) (h : os[i.toNat]? = some o) (q : QO o) : ixO (.lst os) (.int i) QO := by
  refine ⟨h0, ?_⟩
  rw [h]
  exact q
end
end DL
namespace DL
open PySem PySem.Spec PyProof.Rows L2 Evl
def olPl (o : OD) : Bool := match o with
  | .lst os => os.all fun z => match z with | .sh d => scalT d | _ => false
  | _ => false
theorem owns_pl {K : PySem.W.Frag} {B : Bx} {G H : Hp} : ∀ {vs : List V} {os : List OD} {f : List Addr}, Owns K B G H vs os f → (os.all fun z => match z with | .sh d => scalT d | _ => false) = true → f = [] ∧ ∃ ds, os = ds.map OD.sh ∧ ds.all scalT = true ∧ Dats K B G vs ds
  | _, _, _, .nil, _ => ⟨rfl, [], rfl, rfl, .nil⟩
  | _, _, _, .cons h t, s => by
    rw [List.all_cons, Bool.and_eq_true] at s
    obtain ⟨rfl, ds, rfl, e2, e3⟩ := owns_pl t s.2
    cases h with
    | @sh v d hd => exact ⟨rfl, d :: ds, rfl, by rw [List.all_cons, Bool.and_eq_true]; exact ⟨s.1, e2⟩, .cons hd e3⟩
    | _ => exact nomatch s.1
theorem owns_sh {K : PySem.W.Frag} {B : Bx} {G H : Hp} : ∀ {vs : List V} {ds : List D}, Dats K B G vs ds → Owns K B G H vs (ds.map OD.sh) []
  | _, _, .nil => .nil
  | _, _, .cons h t => Owns.cons (f := []) (.sh h) (owns_sh t)
theorem sh_owns {K : PySem.W.Frag} {B : Bx} {G H : Hp} : ∀ {vs : List V} {ds : List D} {f : List Addr}, Owns K B G H vs (ds.map OD.sh) f → f = [] ∧ Dats K B G vs ds
  | _, [], _, .nil => ⟨rfl, .nil⟩
  | _, _ :: _, _, .cons (.sh h) t => by
    obtain ⟨rfl, e⟩ := sh_owns t
    exact ⟨rfl, .cons h e⟩
def oBorL (i : Nat) (ro : OE) : OE := fun δ Q => ownO δ[i]? fun _ o => ro (δ.set i (some (.sh o.toD))) fun o2 => olPl o2 = true ∧ Q o2
section
variable {X : Cx} {B : Bx} {e : Expr}
theorem po_borL {ro : OE} (i : Nat) (h : PO X B e ro) : PO X B e (oBorL i ro) := ⟨fun pins s σ H P I q => by
  obtain ⟨H0, G, δ, Q, j, st, hr, k⟩ := q
  have hr : ownO δ[i]? fun _ o => ro (δ.set i (some (.sh o.toD))) fun o2 => olPl o2 = true ∧ Q o2 := hr
  unfold ownO at hr
  split at hr
  · rename_i v o h1
    obtain ⟨G1, L, I2, j1, s1, nn, back⟩ := bor_core4 I j st h1
    refine thn (h.run pins s σ L (fun x H2 => ∃ o2 f G2, (olPl o2 = true ∧ Q o2) ∧ Gr X.K B G1 L G2 H2 ∧ Own X.K B G2 H2 x o2 f ∧ Fresh B L f) I2 ⟨H0, G1, _, _, j1, s1, hr, fun o2 v2 f G2 H2 q2 g2 n1 n2 => ⟨o2, f, G2, q2, g2, n1, n2⟩⟩) fun u s2 ⟨x, H2, J, r2, o2, f, G2, q2, g2, n1, n2⟩ => ?_
    obtain ⟨U, G3, J2, g3, gn, un, tu⟩ := back σ s2 G2 H2 J g2
    cases n1 with
    | @lst p vs os f b1 b2 b3 =>
      obtain ⟨rfl, ds, rfl, s2, b4⟩ := owns_pl b3 q2.1
      have hp := nn p (n2.2 p List.mem_cons_self).1
      have up : U p = some (.lst vs) := by rw [un p hp]; exact b1
      have gp : G3 p = none := gn p hp fun q z => ncod (nl rfl) q (Option.some.inj (b1.symm.trans z))
      obtain ⟨G4, l1, l2, l3⟩ := learn_all (Gr.refl g3.j) b4 g2.j.ex tu s2
      have gp4 : G4 p = none := l3 p gp fun vs z => by rw [up] at z; cases z
      exact ⟨_, U, J2, r2, k _ _ [p] G4 U q2.2 (g3.trans l1) (.lst up gp4 (owns_sh l2)) ⟨List.nodup_cons.mpr ⟨List.not_mem_nil, List.nodup_nil⟩, fun q hq => by
        cases List.mem_singleton.mp hq
        exact ⟨hp, Gr.neB j hp⟩⟩⟩
    | _ => exact nomatch q2.1
  · exact hr.elim⟩
end
section
variable {ro : OE} {δ : DS} {Q : OD → Prop} {i : Nat}
theorem z_oBorL : oBorL i ro δ Q = ownO δ[i]? fun _ o => ro (δ.set i (some (.sh o.toD))) fun o2 => olPl o2 = true ∧ Q o2 := propext Iff.rfl
end
def hid3 (H : Hp) (x dx p : Addr) : Hp := fun b => if b = x ∨ b = dx ∨ b = p then none else H b
theorem hid3_x {H : Hp} {x dx p : Addr} : hid3 H x dx p x = none := if_pos (.inl rfl)
theorem hid3_d {H : Hp} {x dx p : Addr} : hid3 H x dx p dx = none := if_pos (.inr (.inl rfl))
theorem hid3_p {H : Hp} {x dx p : Addr} : hid3 H x dx p p = none := if_pos (.inr (.inr rfl))
theorem hid3_le {H : Hp} {x dx p b : Addr} {o : HO} (h : hid3 H x dx p b = some o) : H b = some o := by
  unfold hid3 at h
  split at h
  · cases h
  · exact h
def spIO (K : PySem.W.Frag) (B : Bx) (C : Nat) (S : FI) : Sp := fun vs H P _ => ∃ (x dx p : Addr) (G : Hp) (ws : List V) (ds : List D) (Q : List D → Prop), vs = [.ref x, .ref p] ∧ (H x = some (.ins (B.ct C) dx []) ∧ H dx = some (.own x) ∧ H p = some (.lst ws)) ∧ (dx ≠ x ∧ p ≠ x ∧ p ≠ dx) ∧ (G x = none ∧ G dx = none ∧ G p = none) ∧ Jn K B G H ∧ (B.nb x ∧ B.nb dx ∧ B.nb p) ∧ Dats K B G ws ds ∧ S ds Q ∧
  ∀ fs us us2 dy G2 H2, Q fs → Gr K B G (hid3 H x dx p) G2 H2 → H2 x = some (SlX.SlO x (B.ct C) dy (us.map some)) → H2 dy = some (.xd []) → H2 p = some (.lst us2) → (dy ≠ x ∧ dy ≠ p) → (G2 x = none ∧ G2 dy = none ∧ G2 p = none) → hid3 H x dx p dy = none → B.nb dy → Dats K B G2 us fs → Dats K B G2 us2 ds → P .non H2
def startIO (n : Nat) (x : Addr) (C : Nat) (p : Addr) (ds : List D) : DS := some (.nw x C []) :: some (.ow (.ref p) (.lst (ds.map .sh))) :: List.replicate (n - 2) none
def endIO (x : Addr) (C : Nat) (p : Addr) (ds : List D) (Q : List D → Prop) : DEnds where
  nx := fun (δ : DS) => (match (δ[0]? : Option (Option SD)) with
    | some (some (.nw x' C' fs)) => (x' = x ∧ C' = C) ∧ ∃ es, fs = es.map some ∧ es ≠ [] ∧ Q es
    | _ => False) ∧ δ[1]? = some (some (.ow (.ref p) (.lst (ds.map .sh))))
  rt := fun _ => False
section
variable {P : Program} {w : World} {K : PySem.W.Frag} {mg : Str → Option Value} {base : Heap}
theorem init_liftO {N : List Str} {B : Bx} {C : Nat} {S : FI} {t : DTS} {vs : List V} {H : Hp} {Q : VK} {E : XK} (hN : 2 ≤ N.length) (vc : ∀ x p ds Q, S ds Q → t (endIO x C p ds Q) (startIO N.length x C p ds)) (h : spIO K B C S vs H Q E) :
    liftS K B t { nx := fun _ H' => Q .non H', rt := Q } (L2.start N vs) H := by
  obtain ⟨x, dx, p, G, ws, ds, R, rfl, ⟨hx, hdx, hp⟩, ⟨ne, n2, n3⟩, ⟨gx, gd, gp⟩, j, ⟨nbx, nbd, nbp⟩, hd, hs, kk⟩ := h
  have g0 : Gr K B G (hid3 H x dx p) G H := by
    refine ⟨Ex.refl G, fun a o _ h => hid3_le h, j, fun _ _ => rfl⟩
  have s0 : StOk K B (hid3 H x dx p) G H (L2.start N [.ref x, .ref p]) (startIO N.length x C p ds) := by
    have len0 : (L2.start N [.ref x, .ref p]).length = (startIO N.length x C p ds).length := by
      unfold L2.start startIO
      simp only [List.length_append, List.length_map, List.length_cons, List.length_replicate, List.length_nil]
      omega
    refine ⟨fun i => if i = 0 then [x, dx] else if i = 1 then [p] else [], len0, fun i ov od e1 e2 => ?_, fun i j' _ _ hij q hq hq2 => ?_⟩
    · match i, e1, e2 with
      | 0, e1, e2 =>
        have e1 : some (some (V.ref x)) = some ov := e1
        have e2 : some (some (SD.nw x C [])) = some od := e2
        cases e1
        cases e2
        rw [if_pos rfl]
        exact .nw ⟨.inl ⟨hx, rfl⟩, .inl hdx, ne, gx, gd, hid3_x, hid3_d, nbx, nbd, rfl, fun i d e => nomatch e⟩
      | 1, e1, e2 =>
        have e1 : some (some (V.ref p)) = some ov := e1
        have e2 : some (some (SD.ow (.ref p) (.lst (ds.map .sh)))) = some od := e2
        cases e1
        cases e2
        rw [if_neg (by decide), if_pos rfl]
        exact .ow (.lst hp gp (owns_sh hd)) (List.nodup_cons.mpr ⟨List.not_mem_nil, List.nodup_nil⟩) fun q hq => by
          cases List.mem_singleton.mp hq
          exact ⟨hid3_p, nbp⟩
      | i + 2, e1, e2 =>
        have e2 : (List.replicate (N.length - 2) none : DS)[i]? = some od := e2
        rw [List.getElem?_replicate] at e2
        split at e2
        · cases e2
          rw [if_neg (by omega), if_neg (by omega)]
          exact .no
        · cases e2
    · by_cases h0 : i = 0
      · subst h0
        rw [if_pos rfl] at hq
        rw [if_neg (Ne.symm hij)] at hq2
        split at hq2
        · cases List.mem_singleton.mp hq2
          rcases List.mem_cons.mp hq with z | z
          · exact n2 z
          · exact n3 (List.mem_singleton.mp z)
        · cases hq2
      · rw [if_neg h0] at hq
        by_cases h1 : i = 1
        · subst h1
          rw [if_pos rfl] at hq
          cases List.mem_singleton.mp hq
          by_cases h2 : j' = 0
          · subst h2
            rw [if_pos rfl] at hq2
            rcases List.mem_cons.mp hq2 with z | z
            · exact n2 z
            · exact n3 (List.mem_singleton.mp z)
          · rw [if_neg h2, if_neg (Ne.symm hij)] at hq2
            cases hq2
        · rw [if_neg h1] at hq
          cases hq
  refine ⟨G, hid3 H x dx p, G, startIO N.length x C p ds, endIO x C p ds R, g0, s0, vc x p ds R hs, ⟨?_, ?_, ?_, ?_, ?_⟩⟩
  · intro σ δ G2 H2 q g _ s2
    obtain ⟨q, q1⟩ := q
    have q : (match (δ[0]? : Option (Option SD)) with | some (some (.nw x' C' fs)) => (x' = x ∧ C' = C) ∧ ∃ es, fs = es.map some ∧ es ≠ [] ∧ R es | _ => False) := q
    cases h1 : δ[0]? with
    | none => rw [h1] at q; exact q.elim
    | some z =>
      cases z with
      | none => rw [h1] at q; exact q.elim
      | some y =>
        cases y with
        | sh _ => rw [h1] at q; exact q.elim
        | ow _ _ => rw [h1] at q; exact q.elim
        | nw x' C' fs =>
          rw [h1] at q
          obtain ⟨⟨rfl, rfl⟩, es, rfl, hne, q⟩ := q
          obtain ⟨F, y⟩ := s2.ex
          obtain ⟨d2, us, a1, n, f0⟩ := StF.nw y h1
          obtain ⟨o1, o2, o3, o4⟩ := y.ow q1
          obtain ⟨zs, rfl, hz⟩ := flds_all n.fl
          have dj := y.dj 0 1 (List.getElem?_eq_some_iff.mp a1).1 (List.getElem?_eq_some_iff.mp o1).1 (by decide)
          rw [f0] at dj
          generalize F 1 = f1 at o2 o3 o4 dj
          cases o2 with
          | @lst _ us2 _ f2 b1 b2 b3 =>
            obtain ⟨rfl, b4⟩ := sh_owns b3
            have nd : d2 ≠ p := fun z => dj d2 (by simp) (by rw [z]; simp)
            rcases n.sl with ⟨z1, z2⟩ | ⟨z1, z2⟩
            · have : zs = [] := by simpa using z2
              subst this
              cases hz
              exact absurd rfl hne
            · exact kk es zs us2 d2 G2 H2 q g z1 z2 b1 ⟨n.ne, nd⟩ ⟨n.gx, n.gd, b2⟩ n.hd n.bd hz b4
  · exact fun σ δ G2 H2 q g _ s2 => q.elim
  · exact fun σ δ G2 H2 q g _ s2 => q.elim
  · exact fun d v G2 H2 q g _ hd => q.elim
  · exact fun o v f G2 H2 q g _ hd => q.elim
theorem fn_initDO {x qual : Str} {st : Stmt} {f a : Addr} {fd : FuncData} {N ps : List Str} {k : Nat} {B : Bx} {C : Nat} {S : FI} {t : DTS} (F : FunD K x qual (defArgs st) (defBody st) (defScope st) [.ref a] [] f fd) (Sc : FnScope N ps (defScope st)) (len : ps.length = 2) (hN : 2 ≤ N.length)
    (hbody : ∀ (cdv : Value) (A : Around) (outer : List Env) (s : Shared) (H : Hp) (E : XK), Room k (A.deeper (envOfC qual (defScope st) s.heap.objs.size f cdv)) → PSsD (cxOf CX0 P w K mg base N qual (defScope st) f cdv A outer s H E).nox B (defBody st) t)
    (vc : ∀ x p ds Q, S ds Q → t (endIO x C p ds Q) (startIO N.length x C p ds)) : FnOk P w K mg base CX0 (k + 1) f fd ps (spIO K B C S) := by
  refine F.ok Sc (fun vs H Q E h => ?_) (fun cdv A outer s H vs Q E hr h => ⟨_, (hbody cdv A outer s H E hr).nox, init_liftO hN vc h⟩)
  obtain ⟨x, dx, p, G, ws, ds, R, rfl, _⟩ := h
  rw [len]; rfl
end
theorem set_sameD {l : DS} {j : Nat} {x : Option SD} (h : l[j]? = some x) : l.set j x = l := by
  refine List.ext_getElem? fun m => ?_
  by_cases e : j = m
  · subst e
    rw [List.getElem?_set_self (List.getElem?_eq_some_iff.mp h).1, h]
  · exact List.getElem?_set_ne e
def dSetMk (i C j : Nat) (S : FI) : DTS := fun W δ => match δ[j]? with
  | some (some (.ow _ (.lst os))) => ∃ ds : List D, os = ds.map OD.sh ∧ S ds fun fs => W.nx (δ.set i (some (.sh (.obj C fs))))
  | _ => False
def dIfOw (j : Nat) (t1 t2 : DTS) : DTS := fun W δ => match δ[j]? with
  | some (some (.ow _ _)) => t1 W δ
  | _ => t2 W δ
section
variable {X : Cx} {B : Bx} {pos cpos : Pos} {g : Addr} {k C : Nat} {x cn y : Str} {S : FI}
theorem psd_ifOw {st : Stmt} {j : Nat} {t1 t2 : DTS} (h1 : PSD X B st t1) (h2 : PSD X B st t2) : PSD X B st (dIfOw j t1 t2) := ⟨fun pins s σ H E I q => by
  obtain ⟨G0, H0, G, δ, W, g, st, h, k⟩ := q
  have h : (match δ[j]? with | some (some (.ow _ _)) => t1 W δ | _ => t2 W δ) := h
  split at h
  · exact h1.run pins s σ H E I ⟨G0, H0, G, δ, W, g, st, h, k⟩
  · exact h2.run pins s σ H E I ⟨G0, H0, G, δ, W, g, st, h, k⟩⟩
theorem psd_setMk {i j : Nat} {px fp py : Pos} (M : Mk X.K (B.ct C) g) (F : FnR X.prog X.w X.K X.mg X.base CX0 k g (spIO X.K B C S)) (hr : Room (k + 1) X.A) (hg : Gl X cn) (hm : X.mg cn = some (.ref (B.ct C)))
    (hN : X.N.Nodup) (hi : X.N[i]? = some x) (hx : Loc X.env.scope x) (hy : PE X (.Name y py) (tVar j)) (hf : X.fn x = true ∨ X.env.scope.names.lookup x = some .local := by first | exact .inl rfl | exact .inr rfl | assumption) (hdb : (cn == ("__debug__" : Str)) = false := by decide)
    (he : starEach [.Name y py] X.env = (false, eval (.Name y py) X.env) :: starEach [] X.env := by rfl) (hpl : (backTo cpos (starEach [] X.env)).any (·.1) = false := by rfl)
    (hs : swapsWith (.Call (.Name cn fp) [.Name y py] [] cpos) (some (.Name x px)) pos.line X.env = pure false := by rfl) :
    PSD X B (.Assign [.Name x px] (.Call (.Name cn fp) [.Name y py] [] cpos) pos) (dSetMk i C j S) := ps_mono (ps_set hN hi hx (StX.pe_makeR (E := E0) M F hr hg hm pass0 (pa_cons hy pa_nil) hdb he hpl) hs hf) fun E σ H q => by
  obtain ⟨G0, H0, G, δ, W, g0, st, h, kk⟩ := q
  have h : (match δ[j]? with | some (some (.ow _ (.lst os))) => ∃ ds : List D, os = ds.map OD.sh ∧ S ds fun fs => W.nx (δ.set i (some (.sh (.obj C fs)))) | _ => False) := h
  split at h
  · rename_i v os h1
    obtain ⟨ds, rfl, h⟩ := h
    obtain ⟨Fo, y0⟩ := st.ex
    obtain ⟨p, rfl⟩ : ∃ p, v = .ref p := by
      obtain ⟨_, e2, _⟩ := y0.ow h1
      generalize Fo j = f at e2
      cases e2
      exact ⟨_, rfl⟩
    obtain ⟨e1, e2, e3, e4⟩ := y0.ow h1
    have efj : Fo j = [p] ∧ ∃ ws, H p = some (.lst ws) ∧ G p = none ∧ Dats X.K B G ws ds := by
      generalize Fo j = f at e2 ⊢
      cases e2 with
      | @lst _ ws _ f2 b1 b2 b3 =>
        obtain ⟨rfl, b4⟩ := sh_owns b3
        exact ⟨rfl, ws, b1, b2, b4⟩
    obtain ⟨ef, ws, hp, gp, hd⟩ := efj
    rw [ef] at e4
    obtain ⟨h0p, nbp⟩ := e4 p List.mem_cons_self
    refine ⟨.ref p, e1, fun z dz hz hdz ne => ?_⟩
    have pz : p ≠ z := fun a => by rw [a, hz] at hp; cases hp
    have pd : p ≠ dz := fun a => by rw [a, hdz] at hp; cases hp
    have gz : G z = none := fresh_back g0.j.ex hz
    have gd : G dz = none := fresh_back g0.j.ex hdz
    have j1 : Jn X.K B G (upd (upd H dz (.own z)) z (.ins (B.ct C) dz [])) := by
      have a := Gr.new0 (o := .own z) g0.j hdz
      exact (Gr.new0 (o := .ins (B.ct C) dz []) a.j (by rw [upd_ne (Ne.symm ne)]; exact hz)).j
    have eh : ∀ b, b ≠ p → hid3 (upd (upd H dz (.own z)) z (.ins (B.ct C) dz [])) z dz p b = H b := fun b hb => by
      unfold hid3
      by_cases h2 : b = z
      · subst h2; rw [if_pos (.inl rfl), hz]
      · by_cases h3 : b = dz
        · subst h3; rw [if_pos (.inr (.inl rfl)), hdz]
        · rw [if_neg (fun w => w.elim h2 fun w => w.elim h3 hb), upd_ne h2, upd_ne h3]
    refine ⟨z, dz, p, G, ws, ds, _, rfl, ⟨upd_same, by rw [upd_ne ne, upd_same], by rw [upd_ne pz, upd_ne pd]; exact hp⟩, ⟨ne, pz, pd⟩, ⟨gz, gd, gp⟩, j1, ⟨Gr.neB g0.j hz, Gr.neB g0.j hdz, nbp⟩, hd, h, fun fs us us2 dy G3 H3 q3 g3 z1 z2 zp z3 z4 z6 z7 z8 z9 => ⟨rfl, ?_⟩⟩
    have g4 := g3.frz (p := dy) z6 z4.2.1 z7 z2
    have g5 := g4.frz (p := z) hid3_x (by rw [upd_ne (Ne.symm z3.1)]; exact z4.1) (Gr.neB g0.j hz) z1
    have e5 : Ex G3 (upd (upd G3 dy (.xd [])) z (SlX.SlO z (B.ct C) dy (us.map some))) := (Ex.new z4.2.1).trans (Ex.new (by rw [upd_ne (Ne.symm z3.1)]; exact z4.1))
    have nh : ∀ {a : Addr} {o : HO}, H0 a = some o → a ≠ p := fun h w => by rw [w, h0p] at h; cases h
    have g6 : Gr X.K B G0 H0 (upd (upd G3 dy (.xd [])) z (SlX.SlO z (B.ct C) dy (us.map some))) H3 := by
      refine ⟨g0.ex.trans g5.ex, fun a o n ha => ?_, g5.j, fun a m => ?_⟩
      · exact g5.kp a o n (by rw [eh a (nh ha)]; exact g0.kp a o n ha)
      · have ap : a ≠ p := by
          obtain ⟨o, ho, _⟩ := m
          exact nh ho
        have m2 := g0.mu m
        rw [g5.old a (by obtain ⟨o, ho, no⟩ := m2; exact ⟨o, by rw [eh a ap]; exact ho, no⟩), g0.old a m]
    have gp5 : upd (upd G3 dy (.xd [])) z (SlX.SlO z (B.ct C) dy (us.map some)) p = none := by
      rw [upd_ne pz, upd_ne (Ne.symm z3.2)]
      exact z4.2.2
    have y1 := y0.put (i := j) (ov := some (.ref p)) (od := some (.ow (.ref p) (.lst (ds.map .sh)))) (fi := [p]) (List.getElem?_eq_some_iff.mp e1).1 g5.ex (H2 := H3) (fun a m n ha => by
      rw [ef] at ha
      have ap : a ≠ p := fun w => ha (by rw [w]; simp)
      obtain ⟨o, ho, no⟩ := m
      refine ⟨(g5.keep a o n (by rw [eh a ap]; exact ho)).trans ho.symm, ?_⟩
      exact g5.old a ⟨o, by rw [eh a ap]; exact ho, no⟩)
      (.ow (.lst zp gp5 (owns_sh (z9.mono e5))) (List.nodup_cons.mpr ⟨List.not_mem_nil, List.nodup_nil⟩) fun q hq => by
        cases List.mem_singleton.mp hq
        exact ⟨h0p, nbp⟩) fun q hq => .inr (by rw [ef]; exact hq)
    rw [set_same e1, set_sameD h1] at y1
    exact kk.nx _ _ _ H3 q3 g6 g5.ex ((⟨_, y1⟩ : StOk X.K B H0 _ H3 σ δ).set (.obj upd_same (by rw [upd_ne z3.1, upd_same]) (z8.mono e5)))
  · exact h.elim
end
section
variable {W : DEnds} {δ : DS} {S : FI} {i C j : Nat} {t1 t2 : DTS} {v : V} {o : OD} {p : Addr} {os : List OD} {d : D}
def ifOwO (x : Option (Option SD)) (P Q : Prop) : Prop := match x with
  | some (some (.ow _ _)) => P
  | _ => Q
def mkOw (x : Option (Option SD)) (K : List OD → Prop) : Prop := match x with
  | some (some (.ow _ (.lst os))) => K os
  | _ => False
theorem z_ifOw : dIfOw j t1 t2 W δ = ifOwO δ[j]? (t1 W δ) (t2 W δ) := propext Iff.rfl
theorem z_ifOwO {P Q : Prop} : ifOwO (some (some (.ow v o))) P Q = P := propext Iff.rfl
theorem z_ifOwS {P Q : Prop} : ifOwO (some (some (.sh d))) P Q = Q := propext Iff.rfl
theorem z_setMk : dSetMk i C j S W δ = mkOw δ[j]? fun os => ∃ ds : List D, os = ds.map OD.sh ∧ S ds fun fs => W.nx (δ.set i (some (.sh (.obj C fs)))) := propext Iff.rfl
theorem z_mkOw {K : List OD → Prop} : mkOw (some (some (.ow v (.lst os)))) K = K os := propext Iff.rfl
end
end DL
namespace DL
open PySem PySem.Spec PyProof.Rows L2 Evl
def tIfOw (j : Nat) (t1 t2 : DT) : DT := fun δ Q => match δ[j]? with
  | some (some (.ow _ _)) => t1 δ Q
  | _ => t2 δ Q
section
variable {X : Cx} {B : Bx} {e : Expr} {j : Nat} {t1 t2 : DT} {δ : DS} {Q : Bool → Prop}
theorem ptd_ifOw (h1 : PTD X B e t1) (h2 : PTD X B e t2) : PTD X B e (tIfOw j t1 t2) := ⟨fun pins s σ H P I q => by
  obtain ⟨H0, G, δ, Q, g, st, h, k⟩ := q
  have h : (match δ[j]? with | some (some (.ow _ _)) => t1 δ Q | _ => t2 δ Q) := h
  split at h
  · exact h1.run pins s σ H P I ⟨H0, G, δ, Q, g, st, h, k⟩
  · exact h2.run pins s σ H P I ⟨H0, G, δ, Q, g, st, h, k⟩⟩
theorem z_tIfOw : tIfOw j t1 t2 δ Q = ifOwO δ[j]? (t1 δ Q) (t2 δ Q) := propext Iff.rfl
/-- what is handed on, kept as one's own, is data -/
def dNorm (i : Nat) (ts : DTS) : DTS := fun W δ => match δ[i]? with
  | some (some (.ow _ (.sh d))) => ts W (δ.set i (some (.sh d)))
  | _ => ts W δ
theorem norm_lift {K : PySem.W.Frag} {E : Ends} {σ : L2.St} {H : Hp} {i : Nat} {t : DTS} (q : liftS K B (dNorm i t) E σ H) : liftS K B t E σ H := by
  obtain ⟨G0, H0, G, δ, W, g, st, h, k⟩ := q
  have h : (match δ[i]? with | some (some (.ow _ (.sh d))) => t W (δ.set i (some (.sh d))) | _ => t W δ) := h
  split at h
  · rename_i v d h1
    obtain ⟨F, y⟩ := st.ex
    obtain ⟨e1, e2, e3, e4⟩ := y.ow h1
    have hd : Dat K B G v d := by
      generalize F i = f at e2
      cases e2 with
      | sh z => exact z
    have y2 := y.put (i := i) (ov := some v) (od := some (.sh d)) (fi := []) (List.getElem?_eq_some_iff.mp e1).1 (Ex.refl G) (H2 := H) (fun _ _ _ _ => ⟨rfl, rfl⟩) (.sh hd) fun q hq => nomatch hq
    rw [set_same e1] at y2
    exact ⟨G0, H0, G, _, W, g, ⟨_, y2⟩, h, k⟩
  · exact ⟨G0, H0, G, δ, W, g, st, h, k⟩
theorem psds_norm {sts : List Stmt} {t : DTS} (i : Nat) (h : PSsD X B sts t) : PSsD X B sts (dNorm i t) := ⟨fun pins s σ H E I hw => h.run pins s σ H E I (norm_lift hw)⟩
def normQ (x : Option (Option SD)) (P : D → Prop) (Q : Prop) : Prop := match x with
  | some (some (.ow _ (.sh d))) => P d
  | _ => Q
theorem z_norm {ts : DTS} {W : DEnds} {i : Nat} : dNorm i ts W δ = normQ δ[i]? (fun d => ts W (δ.set i (some (.sh d)))) (ts W δ) := propext Iff.rfl
theorem z_normS {v : V} {d : D} {P : D → Prop} {Q : Prop} : normQ (some (some (.ow v (.sh d)))) P Q = P d := propext Iff.rfl
theorem z_normL {v : V} {os : List OD} {P : D → Prop} {Q : Prop} : normQ (some (some (.ow v (.lst os)))) P Q = Q := propext Iff.rfl
end
end DL
namespace DL
open PySem PySem.Spec PyProof.Rows L2 Evl
theorem zHd0 : (type_of% @z_sorted) ∧ (type_of% @z_srtL) ∧ (type_of% @z_srtD) ∧ (type_of% @z_rDx) ∧ (type_of% @z_rev) ∧ (type_of% @z_revL) ∧ (type_of% @z_setdApp) ∧ (type_of% @z_dicF) ∧ (type_of% @z_retVals) ∧ (type_of% @z_fBor) ∧ (type_of% @z_isiA) ∧ (type_of% @z_isiAo) ∧ (type_of% @z_isiAn) ∧ (type_of% @z_isiAb) ∧ (type_of% @z_isiAi) ∧ (type_of% @z_isiAs) ∧ (type_of% @z_isiAl) ∧ (type_of% @z_isiAt) ∧ (type_of% @z_isiAd) ∧ (type_of% @z_listO) ∧ (type_of% @z_lenO) ∧ (type_of% @z_seqK) ∧ (type_of% @z_seqKl) ∧ (type_of% @z_seqKt) ∧ (type_of% @z_seqKk) ∧ (type_of% @z_borT) ∧ (type_of% @z_scTN) ∧ (type_of% @z_scTB) ∧ (type_of% @z_scTI) ∧ (type_of% @z_scTS) ∧ (type_of% @z_scTT) ∧ (type_of% @z_kick) ∧ (type_of% @z_kCat2) ∧ (type_of% @z_inO) ∧ (type_of% @z_ninO) ∧ (type_of% @z_inQ) ∧ (type_of% @z_ninQ) ∧ (type_of% @z_isi2A) ∧ (type_of% @z_isi2Ao) ∧ (type_of% @z_isi2An) ∧ (type_of% @z_isi2Ab) ∧ (type_of% @z_isi2Ai) ∧ (type_of% @z_isi2As) ∧ (type_of% @z_isi2Al) ∧ (type_of% @z_isi2At) ∧ (type_of% @z_isi2Ak) ∧ (type_of% @z_isi2Ad) ∧ (type_of% @iteO_t) ∧ (type_of% @iteO_f) ∧ (type_of% @z_iOwn) ∧ (type_of% @z_oIxO) ∧ (type_of% @z_oBorL) ∧ (type_of% @z_ifOw) ∧ (type_of% @z_ifOwO) ∧ (type_of% @z_ifOwS) ∧ (type_of% @z_setMk) ∧ (type_of% @z_mkOw) ∧ (type_of% @z_tIfOw) ∧ (type_of% @z_norm) ∧ (type_of% @z_normS) ∧ (type_of% @z_normL) := ⟨@z_sorted, @z_srtL, @z_srtD, @z_rDx, @z_rev, @z_revL, @z_setdApp, @z_dicF, @z_retVals, @z_fBor, @z_isiA, @z_isiAo, @z_isiAn, @z_isiAb, @z_isiAi, @z_isiAs, @z_isiAl, @z_isiAt, @z_isiAd, @z_listO, @z_lenO, @z_seqK, @z_seqKl, @z_seqKt, @z_seqKk, @z_borT, @z_scTN, @z_scTB, @z_scTI, @z_scTS, @z_scTT, @z_kick, @z_kCat2, @z_inO, @z_ninO, @z_inQ, @z_ninQ, @z_isi2A, @z_isi2Ao, @z_isi2An, @z_isi2Ab, @z_isi2Ai, @z_isi2As, @z_isi2Al, @z_isi2At, @z_isi2Ak, @z_isi2Ad, @iteO_t, @iteO_f, @z_iOwn, @z_oIxO, @z_oBorL, @z_ifOw, @z_ifOwO, @z_ifOwS, @z_setMk, @z_mkOw, @z_tIfOw, @z_norm, @z_normS, @z_normL⟩
theorem zHp0 : (type_of% @z_toDs) := @z_toDs
end DL
namespace My
open PySem PySem.Spec PyProof.Rows L2 Evl DL
def topS (i : Nat) : Stmt := PySem.Challenge.pw_poleribbons_k60_heaps_told.main.body.getD i (.Pass ⟨0, 0, 0, 0⟩)
abbrev s_is_integer : Stmt := topS 6
theorem sc_is_integer : FnScope ["thing"] ["thing"] (defScope s_is_integer) := ⟨rfl, rfl, rfl, by decide +kernel, rfl, by decide +kernel, by decide +kernel⟩
abbrev s_is_count : Stmt := topS 7
theorem sc_is_count : FnScope ["thing"] ["thing"] (defScope s_is_count) := ⟨rfl, rfl, rfl, by decide +kernel, rfl, by decide +kernel, by decide +kernel⟩
abbrev s_is_piece : Stmt := topS 10
theorem sc_is_piece : FnScope ["thing"] ["thing"] (defScope s_is_piece) := ⟨rfl, rfl, rfl, by decide +kernel, rfl, by decide +kernel, by decide +kernel⟩
abbrev s_are_pieces : Stmt := topS 11
theorem sc_are_pieces : FnScope ["thing", "one"] ["thing"] (defScope s_are_pieces) := ⟨rfl, rfl, rfl, by decide +kernel, rfl, by decide +kernel, by decide +kernel⟩
abbrev s_touch : Stmt := topS 12
theorem sc_touch : FnScope ["one", "other"] ["one", "other"] (defScope s_touch) := ⟨rfl, rfl, rfl, by decide +kernel, rfl, by decide +kernel, by decide +kernel⟩
abbrev s_with_levels : Stmt := topS 15
theorem sc_with_levels : FnScope ["pieces", "found", "piece", "level", "known", "other"] ["pieces"] (defScope s_with_levels) := ⟨rfl, rfl, rfl, by decide +kernel, rfl, by decide +kernel, by decide +kernel⟩
abbrev s_place_of_undone : Stmt := topS 13
theorem sc_place_of_undone : FnScope ["kept", "piece", "place"] ["kept", "piece"] (defScope s_place_of_undone) := ⟨rfl, rfl, rfl, by decide +kernel, rfl, by decide +kernel, by decide +kernel⟩
abbrev s_without_undone : Stmt := topS 14
theorem sc_without_undone : FnScope ["pieces", "kept", "piece", "place"] ["pieces"] (defScope s_without_undone) := ⟨rfl, rfl, rfl, by decide +kernel, rfl, by decide +kernel, by decide +kernel⟩
abbrev s_in_order : Stmt := topS 16
theorem sc_in_order : FnScope ["pieces", "level", "piece"] ["pieces"] (defScope s_in_order) := ⟨rfl, rfl, rfl, by decide +kernel, rfl, by decide +kernel, by decide +kernel⟩
abbrev s_Heap___init__ : Stmt := inClass (topS 18) 1
theorem sc_Heap___init__ : FnScope ["self", "pieces"] ["self", "pieces"] (defScope s_Heap___init__) := ⟨rfl, rfl, rfl, by decide +kernel, rfl, by decide +kernel, by decide +kernel⟩
abbrev s_Heap___contains__ : Stmt := inClass (topS 18) 4
theorem sc_Heap___contains__ : FnScope ["self", "thing"] ["self", "thing"] (defScope s_Heap___contains__) := ⟨rfl, rfl, rfl, by decide +kernel, rfl, by decide +kernel, by decide +kernel⟩
abbrev s_Heap___iter__ : Stmt := inClass (topS 18) 2
theorem sc_Heap___iter__ : FnScope ["self"] ["self"] (defScope s_Heap___iter__) := ⟨rfl, rfl, rfl, by decide +kernel, rfl, by decide +kernel, by decide +kernel⟩
abbrev s_Heap___len__ : Stmt := inClass (topS 18) 3
theorem sc_Heap___len__ : FnScope ["self"] ["self"] (defScope s_Heap___len__) := ⟨rfl, rfl, rfl, by decide +kernel, rfl, by decide +kernel, by decide +kernel⟩
abbrev s_Heap_firsts : Stmt := inClass (topS 18) 6
theorem sc_Heap_firsts : FnScope ["self", "level", "piece"] ["self"] (defScope s_Heap_firsts) := ⟨rfl, rfl, rfl, by decide +kernel, rfl, by decide +kernel, by decide +kernel⟩
abbrev s_Heap_lasts : Stmt := inClass (topS 18) 7
theorem sc_Heap_lasts : FnScope ["self", "level", "piece"] ["self"] (defScope s_Heap_lasts) := ⟨rfl, rfl, rfl, by decide +kernel, rfl, by decide +kernel, by decide +kernel⟩
abbrev s_Heap_levels : Stmt := inClass (topS 18) 5
theorem sc_Heap_levels : FnScope ["self", "found", "level", "piece"] ["self"] (defScope s_Heap_levels) := ⟨rfl, rfl, rfl, by decide +kernel, rfl, by decide +kernel, by decide +kernel⟩
abbrev s_is_side : Stmt := topS 8
theorem sc_is_side : FnScope ["thing"] ["thing"] (defScope s_is_side) := ⟨rfl, rfl, rfl, by decide +kernel, rfl, by decide +kernel, by decide +kernel⟩
abbrev s_Heap_pieces_of : Stmt := inClass (topS 18) 8
theorem sc_Heap_pieces_of : FnScope ["self", "ribbon", "piece"] ["self", "ribbon"] (defScope s_Heap_pieces_of) := ⟨rfl, rfl, rfl, by decide +kernel, rfl, by decide +kernel, by decide +kernel⟩
abbrev s__law_bag : Stmt := topS 20
theorem sc__law_bag : FnScope ["_law_script", "_law_cell"] ["_law_script"] (defScope s__law_bag) := ⟨rfl, rfl, rfl, by decide +kernel, rfl, by decide +kernel, by decide +kernel⟩
abbrev s__law_contrary : Stmt := topS 26
theorem sc__law_contrary : FnScope ["_law_piece_here"] ["_law_piece_here"] (defScope s__law_contrary) := ⟨rfl, rfl, rfl, by decide +kernel, rfl, by decide +kernel, by decide +kernel⟩
abbrev s__law_take : Stmt := topS 21
theorem sc__law_take : FnScope ["_law_bag_here", "_law_many", "_law_cell", "_law_mixed", "_law_value", "_law_begin", "_law_second"] ["_law_bag_here", "_law_many"] (defScope s__law_take) := ⟨rfl, rfl, rfl, by decide +kernel, rfl, by decide +kernel, by decide +kernel⟩
abbrev s__law_pick : Stmt := topS 23
theorem sc__law_pick : FnScope ["_law_bag_here", "_law_things"] ["_law_bag_here", "_law_things"] (defScope s__law_pick) := ⟨rfl, rfl, rfl, by decide +kernel, rfl, by decide +kernel, by decide +kernel⟩
abbrev s__law_piece : Stmt := topS 24
theorem sc__law_piece : FnScope ["_law_bag_here", "_law_n", "_law_m"] ["_law_bag_here", "_law_n", "_law_m"] (defScope s__law_piece) := ⟨rfl, rfl, rfl, by decide +kernel, rfl, by decide +kernel, by decide +kernel⟩
abbrev s__law_drawn_pieces : Stmt := topS 31
theorem sc__law_drawn_pieces : FnScope ["_law_bag_here", "_law_many", "_law_found", "_law_n", "_law_m", "_law_k", "_law_piece_here"] ["_law_bag_here", "_law_many"] (defScope s__law_drawn_pieces) := ⟨rfl, rfl, rfl, by decide +kernel, rfl, by decide +kernel, by decide +kernel⟩
abbrev s__law_handed : Stmt := topS 32
theorem sc__law_handed : FnScope ["_law_bag_here", "_law_some"] ["_law_bag_here", "_law_some"] (defScope s__law_handed) := ⟨rfl, rfl, rfl, by decide +kernel, rfl, by decide +kernel, by decide +kernel⟩
abbrev s__law_touch : Stmt := topS 25
theorem sc__law_touch : FnScope ["_law_one", "_law_other"] ["_law_one", "_law_other"] (defScope s__law_touch) := ⟨rfl, rfl, rfl, by decide +kernel, rfl, by decide +kernel, by decide +kernel⟩
abbrev s__law_couple : Stmt := topS 27
theorem sc__law_couple : FnScope ["_law_pieces", "_law_late", "_law_early", "_law_between", "_law_one"] ["_law_pieces"] (defScope s__law_couple) := ⟨rfl, rfl, rfl, by decide +kernel, rfl, by decide +kernel, by decide +kernel⟩
abbrev s__law_left_over : Stmt := topS 28
theorem sc__law_left_over : FnScope ["_law_pieces", "_law_couple_here", "_law_k"] ["_law_pieces"] (defScope s__law_left_over) := ⟨rfl, rfl, rfl, by decide +kernel, rfl, by decide +kernel, by decide +kernel⟩
abbrev s__law_leveled : Stmt := topS 29
theorem sc__law_leveled : FnScope ["_law_pieces", "_law_ranks", "_law_at", "_law_k", "_law_one"] ["_law_pieces"] (defScope s__law_leveled) := ⟨rfl, rfl, rfl, by decide +kernel, rfl, by decide +kernel, by decide +kernel⟩
abbrev s__law_heaped : Stmt := topS 30
theorem sc__law_heaped : FnScope ["_law_pieces"] ["_law_pieces"] (defScope s__law_heaped) := ⟨rfl, rfl, rfl, by decide +kernel, rfl, by decide +kernel, by decide +kernel⟩
abbrev s__law_alike : Stmt := topS 22
theorem sc__law_alike : FnScope ["_law_found", "_law_due"] ["_law_found", "_law_due"] (defScope s__law_alike) := ⟨rfl, rfl, rfl, by decide +kernel, rfl, by decide +kernel, by decide +kernel⟩
abbrev s__law_ribbons_right : Stmt := topS 33
theorem sc__law_ribbons_right : FnScope ["_law_heap", "_law_due", "_law_side", "_law_at", "_law_number", "_law_again", "_law_found", "_law_piece_here"] ["_law_heap", "_law_due"] (defScope s__law_ribbons_right) := ⟨rfl, rfl, rfl, by decide +kernel, rfl, by decide +kernel, by decide +kernel⟩
abbrev s__law_right : Stmt := topS 34
theorem sc__law_right : FnScope ["_law_heap", "_law_due", "_law_firsts", "_law_lasts", "_law_again", "_law_found", "_law_some", "_law_k", "_law_one", "_law_piece_here"] ["_law_heap", "_law_due"] (defScope s__law_right) := ⟨rfl, rfl, rfl, by decide +kernel, rfl, by decide +kernel, by decide +kernel⟩
abbrev s_law : Stmt := topS 35
theorem sc_law : FnScope ["_law_script", "_law_bag_here", "_law_turn", "_law_pieces", "_law_far", "_law_due", "_law_couple_here", "_law_handed_here", "_law_heap", "_law_i", "_law_j", "_law_above", "_law_on"] ["_law_script"] (defScope s_law) := ⟨rfl, rfl, rfl, by decide +kernel, rfl, by decide +kernel, by decide +kernel⟩
def c_SIDES : D := cTup [Str.ofString "moon", Str.ofString "sun"]
/-- what the top has left -/
structure Top (K : PySem.W.Frag) (mg : Str → Option Value) (ct : Nat → Addr) where
  f_is_integer : DefAt K mg "is_integer" s_is_integer ["thing"]
  f_is_count : DefAt K mg "is_count" s_is_count ["thing"]
  f_is_piece : DefAt K mg "is_piece" s_is_piece ["thing"]
  f_are_pieces : DefAt K mg "are_pieces" s_are_pieces ["thing"]
  f_touch : DefAt K mg "touch" s_touch ["one", "other"]
  f_with_levels : DefAt K mg "with_levels" s_with_levels ["pieces"]
  f_place_of_undone : DefAt K mg "place_of_undone" s_place_of_undone ["kept", "piece"]
  f_without_undone : DefAt K mg "without_undone" s_without_undone ["pieces"]
  f_in_order : DefAt K mg "in_order" s_in_order ["pieces"]
  i_Heap___init__ : InAtD K "__init__" "Heap.__init__" s_Heap___init__ ["self", "pieces"]
  i_Heap___contains__ : InAt K "__contains__" "Heap.__contains__" s_Heap___contains__ ["self", "thing"]
  i_Heap___iter__ : InAt K "__iter__" "Heap.__iter__" s_Heap___iter__ ["self"]
  i_Heap___len__ : InAt K "__len__" "Heap.__len__" s_Heap___len__ ["self"]
  i_Heap_firsts : InAt K "firsts" "Heap.firsts" s_Heap_firsts ["self"]
  i_Heap_lasts : InAt K "lasts" "Heap.lasts" s_Heap_lasts ["self"]
  i_Heap_levels : InAt K "levels" "Heap.levels" s_Heap_levels ["self"]
  f_is_side : DefAt K mg "is_side" s_is_side ["thing"]
  i_Heap_pieces_of : InAt K "pieces_of" "Heap.pieces_of" s_Heap_pieces_of ["self", "ribbon"]
  f__law_bag : DefAt K mg "_law_bag" s__law_bag ["_law_script"]
  f__law_contrary : DefAt K mg "_law_contrary" s__law_contrary ["_law_piece_here"]
  f__law_take : DefAt K mg "_law_take" s__law_take ["_law_bag_here", "_law_many"]
  f__law_pick : DefAt K mg "_law_pick" s__law_pick ["_law_bag_here", "_law_things"]
  f__law_piece : DefAt K mg "_law_piece" s__law_piece ["_law_bag_here", "_law_n", "_law_m"]
  f__law_drawn_pieces : DefAt K mg "_law_drawn_pieces" s__law_drawn_pieces ["_law_bag_here", "_law_many"]
  f__law_handed : DefAt K mg "_law_handed" s__law_handed ["_law_bag_here", "_law_some"]
  f__law_touch : DefAt K mg "_law_touch" s__law_touch ["_law_one", "_law_other"]
  f__law_couple : DefAt K mg "_law_couple" s__law_couple ["_law_pieces"]
  f__law_left_over : DefAt K mg "_law_left_over" s__law_left_over ["_law_pieces"]
  f__law_leveled : DefAt K mg "_law_leveled" s__law_leveled ["_law_pieces"]
  f__law_heaped : DefAt K mg "_law_heaped" s__law_heaped ["_law_pieces"]
  f__law_alike : DefAt K mg "_law_alike" s__law_alike ["_law_found", "_law_due"]
  f__law_ribbons_right : DefAt K mg "_law_ribbons_right" s__law_ribbons_right ["_law_heap", "_law_due"]
  f__law_right : DefAt K mg "_law_right" s__law_right ["_law_heap", "_law_due"]
  f_law : DefAt K mg "law" s_law ["_law_script"]
  c_Heap : SlX.SCls K (ct 5)
  g_Heap : mg "Heap" = some (.ref (ct 5))
  s_Heap_kept_pieces : SlotAt K (ct 5) "kept_pieces" 0
  ob_Heap : ObjC K (ct 5)
  mk_Heap : Mk K (ct 5) i_Heap___init__.f
  m_Heap___contains__ : Meth K (ct 5) "__contains__" i_Heap___contains__.f
  m_Heap___iter__ : Meth K (ct 5) "__iter__" i_Heap___iter__.f
  m_Heap___len__ : Meth K (ct 5) "__len__" i_Heap___len__.f
  m_Heap_firsts : Meth K (ct 5) "firsts" i_Heap_firsts.f
  m_Heap_lasts : Meth K (ct 5) "lasts" i_Heap_lasts.f
  m_Heap_levels : Meth K (ct 5) "levels" i_Heap_levels.f
  m_Heap_pieces_of : Meth K (ct 5) "pieces_of" i_Heap_pieces_of.f
  ob_all : ∀ c ∈ ([5] : List Nat), ObjC K (ct c)
  n_abs : mg "abs" = none
  n_all : mg "all" = none
  n_bool : mg "bool" = none
  n_int : mg "int" = none
  n_isinstance : mg "isinstance" = none
  n_iter : mg "iter" = none
  n_len : mg "len" = none
  n_list : mg "list" = none
  n_max : mg "max" = none
  n_range : mg "range" = none
  n_repr : mg "repr" = none
  n_set : mg "set" = none
  n_sorted : mg "sorted" = none
  n_str : mg "str" = none
  n_sum : mg "sum" = none
  n_tuple : mg "tuple" = none
  a_SIDES : Addr
  g_SIDES : mg "SIDES" = some (.ref a_SIDES)
  d_SIDES : ∀ B G, Dat K B G (.ref a_SIDES) c_SIDES
def t_is_integer : DTS := (dRet (dAn (dIsiA "int" [5] (dVar 0)) (dNt (dIsiA "bool" [5] (dVar 0)))))
def S_is_integer : FD := fun ds Q => ds.length = 1 ∧ t_is_integer { nx := fun _ => Q .non, rt := Q } (startD 1 ds)
theorem len_is_integer : ∀ ds Q, S_is_integer ds Q → ds.length = 1 := fun _ _ h => h.1
theorem vc_is_integer : ∀ ds Q, S_is_integer ds Q → t_is_integer { nx := fun _ => Q .non, rt := Q } (startD 1 ds) := fun _ _ h => h.2
theorem ok_is_integer {P : Program} {w : World} {K : PySem.W.Frag} {mg : Str → Option Value} {base : Heap} {B : Bx} (T : Top K mg B.ct) : FnOk P w K mg base CX0 1 T.f_is_integer.f T.f_is_integer.fd ["thing"] (spD K B S_is_integer) := by
  refine fn_d (k := 0) (t := t_is_integer) T.f_is_integer.fn sc_is_integer len_is_integer (fun cdv A outer s H E hr => ?_) vc_is_integer
  refine psd_one ?_
  refine (psd_ret (pd_and (pd_isiA known_int (by decide) T.ob_all (by rfl) T.n_isinstance (by rfl) T.n_int (by decide +kernel) (pd_var 0)) (pd_1 (pd_not (pd_isiA known_bool (by decide) T.ob_all (by rfl) T.n_isinstance (by rfl) T.n_bool (by decide +kernel) (pd_var 0))))))
def t_is_count : DTS := (dRet (dAn (dCall S_is_integer (dCons (dVar 0) dNil)) (dOp oGe (dVar 0) (dC (.int 0)))))
def S_is_count : FD := fun ds Q => ds.length = 1 ∧ t_is_count { nx := fun _ => Q .non, rt := Q } (startD 1 ds)
theorem len_is_count : ∀ ds Q, S_is_count ds Q → ds.length = 1 := fun _ _ h => h.1
theorem vc_is_count : ∀ ds Q, S_is_count ds Q → t_is_count { nx := fun _ => Q .non, rt := Q } (startD 1 ds) := fun _ _ h => h.2
theorem ok_is_count {P : Program} {w : World} {K : PySem.W.Frag} {mg : Str → Option Value} {base : Heap} {B : Bx} (T : Top K mg B.ct) : FnOk P w K mg base CX0 2 T.f_is_count.f T.f_is_count.fd ["thing"] (spD K B S_is_count) := by
  refine fn_d (k := 1) (t := t_is_count) T.f_is_count.fn sc_is_count len_is_count (fun cdv A outer s H E hr => ?_) vc_is_count
  refine psd_one ?_
  refine (psd_ret (pd_and (pd_callD T.f_is_integer (ok_is_integer T) hr (by decide) (by rfl) (pad_cons (pd_var 0) pad_nil)) (pd_1 (pd_cmp op_ge_d (pd_var 0) pd_int (by rfl)))))
def t_is_piece : DTS := (dSeq (dIfS (tOrr (tNt (tBl (dIsiA "tuple" [5] (dVar 0)))) (tOrr (tBl (dOp oNe (dCall cLen (dCons (dVar 0) dNil)) (dC (.int 4)))) (tOrr (tNt (tBl (dCall S_is_count (dCons (dOp oIx (dVar 0) (dC (.int 0))) dNil)))) (tNt (tBl (dCall S_is_count (dCons (dOp oIx (dVar 0) (dC (.int 1))) dNil))))))) (dRet (dC (.bl false))) dNext)
  (dRet (dAn (dIsiA "bool" [5] (dOp oIx (dVar 0) (dC (.int 2)))) (dIsiA "bool" [5] (dOp oIx (dVar 0) (dC (.int 3)))))))
def S_is_piece : FD := fun ds Q => ds.length = 1 ∧ t_is_piece { nx := fun _ => Q .non, rt := Q } (startD 1 ds)
theorem len_is_piece : ∀ ds Q, S_is_piece ds Q → ds.length = 1 := fun _ _ h => h.1
theorem vc_is_piece : ∀ ds Q, S_is_piece ds Q → t_is_piece { nx := fun _ => Q .non, rt := Q } (startD 1 ds) := fun _ _ h => h.2
theorem ok_is_piece {P : Program} {w : World} {K : PySem.W.Frag} {mg : Str → Option Value} {base : Heap} {B : Bx} (T : Top K mg B.ct) : FnOk P w K mg base CX0 3 T.f_is_piece.f T.f_is_piece.fd ["thing"] (spD K B S_is_piece) := by
  refine fn_d (k := 2) (t := t_is_piece) T.f_is_piece.fn sc_is_piece len_is_piece (fun cdv A outer s H E hr => ?_) vc_is_piece
  refine psd_cons ?_ ?_
  · refine psd_if (pwd_or (ptd_not (ptd_val (pd_isiA known_tuple (by decide) T.ob_all (by rfl) T.n_isinstance (by rfl) T.n_tuple (by decide +kernel) (pd_var 0)))) (pwd_or (ptd_cmp (op_ne_d hr.units) (pd_callB call_len_d (by rfl) T.n_len (by decide +kernel) (pad_cons (pd_var 0) pad_nil)) pd_int (by rfl)) (pwd_or (ptd_not (ptd_val (pd_callD T.f_is_count (ok_is_count T) hr (by decide) (by rfl) (pad_cons (pd_ix ix_d (pd_var 0) pd_int) pad_nil)))) (pwd_or1 (ptd_not (ptd_val (pd_callD T.f_is_count (ok_is_count T) hr (by decide) (by rfl) (pad_cons (pd_ix ix_d (pd_var 0) pd_int) pad_nil)))))))).pt ?_ ?_
    · refine psd_one ?_
      refine (psd_ret pd_bl)
    · exact psd_nil
  refine psd_one ?_
  refine (psd_ret (pd_and (pd_isiA known_bool (by decide) T.ob_all (by rfl) T.n_isinstance (by rfl) T.n_bool (by decide +kernel) (pd_ix ix_d (pd_var 0) pd_int)) (pd_1 (pd_isiA known_bool (by decide) T.ob_all (by rfl) T.n_isinstance (by rfl) T.n_bool (by decide +kernel) (pd_ix ix_d (pd_var 0) pd_int)))))
def t_are_pieces : DTS := (dRet (dAn (dIsi2A "list" "tuple" [5] (dVar 0)) (dCall cAll (dCons (dF (fLc (iSeqK (dVar 0)) (gN 1) dYes (dCall S_is_piece (dCons (dVar 1) dNil)) [1])) dNil))))
def S_are_pieces : FD := fun ds Q => ds.length = 1 ∧ t_are_pieces { nx := fun _ => Q .non, rt := Q } (startD 2 ds)
theorem len_are_pieces : ∀ ds Q, S_are_pieces ds Q → ds.length = 1 := fun _ _ h => h.1
theorem vc_are_pieces : ∀ ds Q, S_are_pieces ds Q → t_are_pieces { nx := fun _ => Q .non, rt := Q } (startD 2 ds) := fun _ _ h => h.2
theorem ok_are_pieces {P : Program} {w : World} {K : PySem.W.Frag} {mg : Str → Option Value} {base : Heap} {B : Bx} (T : Top K mg B.ct) : FnOk P w K mg base CX0 4 T.f_are_pieces.f T.f_are_pieces.fd ["thing"] (spD K B S_are_pieces) := by
  refine fn_d (k := 3) (t := t_are_pieces) T.f_are_pieces.fn sc_are_pieces len_are_pieces (fun cdv A outer s H E hr => ?_) vc_are_pieces
  refine psd_one ?_
  refine (psd_ret (pd_and (pd_isi2A known_list known_tuple (by decide) (by decide) T.ob_all (by rfl) T.n_isinstance (by rfl) T.n_list (by decide +kernel) (by rfl) T.n_tuple (by decide +kernel) (pd_var 0)) (pd_1 (pd_callB (call_all_d rfl) (by rfl) T.n_all (by decide +kernel) (pad_cons (pd_f (pf_lc rfl sc_are_pieces.nd (pid_seqK (pd_var 0)) (blkOk_by (own := [("one", 1)]) (by rfl)) (by decide) (fun _ _ _ _ _ => (pgd_name (i := 1) sc_are_pieces.nd rfl (by first | exact .inl rfl | exact .inr rfl))) (fun _ _ _ _ _ => ptsd_nil) (fun _ _ _ _ _ => ?h2))) pad_nil)))))
  case h2 => exact (pd_callD T.f_is_piece (ok_is_piece T) hr (by decide) (by rfl) (pad_cons (pd_var 1) pad_nil))
def t_touch : DTS := (dRet (dOr (dOp oEq (dOp oIx (dVar 0) (dC (.int 0))) (dOp oIx (dVar 1) (dC (.int 0)))) (dOp oEq (dOp oIx (dVar 0) (dC (.int 1))) (dOp oIx (dVar 1) (dC (.int 1))))))
def S_touch : FD := fun ds Q => ds.length = 2 ∧ t_touch { nx := fun _ => Q .non, rt := Q } (startD 2 ds)
theorem len_touch : ∀ ds Q, S_touch ds Q → ds.length = 2 := fun _ _ h => h.1
theorem vc_touch : ∀ ds Q, S_touch ds Q → t_touch { nx := fun _ => Q .non, rt := Q } (startD 2 ds) := fun _ _ h => h.2
theorem ok_touch {P : Program} {w : World} {K : PySem.W.Frag} {mg : Str → Option Value} {base : Heap} {B : Bx} (T : Top K mg B.ct) : FnOk P w K mg base CX0 1 T.f_touch.f T.f_touch.fd ["one", "other"] (spD K B S_touch) := by
  refine fn_d (k := 0) (t := t_touch) T.f_touch.fn sc_touch len_touch (fun cdv A outer s H E hr => ?_) vc_touch
  refine psd_one ?_
  refine (psd_ret (pd_or (pd_cmp (op_eq_d hr.units) (pd_ix ix_d (pd_var 0) pd_int) (pd_ix ix_d (pd_var 1) pd_int) (by rfl)) (pd_1 (pd_cmp (op_eq_d hr.units) (pd_ix ix_d (pd_var 0) pd_int) (pd_ix ix_d (pd_var 1) pd_int) (by rfl)))))
def b_with_levels_1 : DTS := (dSeq (dSet 3 (dCall cMaxL (dCons (dOp oAdd (dF (fLst (dCons (dC (.int 0)) dNil))) (dF (fLc (iSeq (dVar 1)) (gT 2 (gsCons (gN 4) (gsCons (gN 5) gsNil))) (tBl (dCall S_touch (dCons (dVar 5) (dCons (dVar 2) dNil)))) (dOp oAdd (dVar 4) (dC (.int 1))) [4, 5]))) dNil)))
  (dSet 1 (dOp oAdd (dVar 1) (dF (fLst (dCons (dTup (dCons (dVar 3) (dCons (dVar 2) dNil))) dNil))))))
def t_with_levels : DTS := (dSeq (dSet 1 (dF (fLst dNil)))
  (dSeq (dFor (iSeq (dVar 0)) (gN 2) b_with_levels_1)
  (dRet (dF (fSorted (dCons (dVar 1) dNil))))))
def S_with_levels : FD := fun ds Q => ds.length = 1 ∧ t_with_levels { nx := fun _ => Q .non, rt := Q } (startD 6 ds)
theorem len_with_levels : ∀ ds Q, S_with_levels ds Q → ds.length = 1 := fun _ _ h => h.1
theorem vc_with_levels : ∀ ds Q, S_with_levels ds Q → t_with_levels { nx := fun _ => Q .non, rt := Q } (startD 6 ds) := fun _ _ h => h.2
theorem ok_with_levels {P : Program} {w : World} {K : PySem.W.Frag} {mg : Str → Option Value} {base : Heap} {B : Bx} (T : Top K mg B.ct) : FnOk P w K mg base CX0 2 T.f_with_levels.f T.f_with_levels.fd ["pieces"] (spD K B S_with_levels) := by
  refine fn_d (k := 1) (t := t_with_levels) T.f_with_levels.fn sc_with_levels len_with_levels (fun cdv A outer s H E hr => ?_) vc_with_levels
  refine psd_cons ?_ ?_
  · refine (psd_set (i := 1) sc_with_levels.nd rfl (by first | exact .inl rfl | exact .inr rfl) (pd_f (pf_lst pad_nil)))
  refine psd_cons ?_ ?_
  · refine psd_for PassesOwn.never rfl (pid_seq (pd_var 0)) (pgd_name (i := 2) sc_with_levels.nd rfl (by first | exact .inl rfl | exact .inr rfl)) ?_
    refine psd_cons ?_ ?_
    · refine (psd_set (i := 3) sc_with_levels.nd rfl (by first | exact .inl rfl | exact .inr rfl) (pd_callB (call_maxL_d rfl) (by rfl) T.n_max (by decide +kernel) (pad_cons (pd_bin op_add_d (pd_f (pf_lst (pad_cons pd_int pad_nil))) (pd_f (pf_lc rfl sc_with_levels.nd (pid_seq (pd_var 1)) (blkOk_by (own := [("known", 4), ("other", 5)]) (by rfl)) (by decide) (fun _ _ _ _ _ => (pgd_tup rfl (pgsd_cons (pgd_name (i := 4) sc_with_levels.nd rfl (by first | exact .inl rfl | exact .inr rfl)) (pgsd_cons (pgd_name (i := 5) sc_with_levels.nd rfl (by first | exact .inl rfl | exact .inr rfl)) pgsd_nil)))) (fun _ _ _ _ _ => ?h2) (fun _ _ _ _ _ => (pd_bin op_add_d (pd_var 4) pd_int))))) pad_nil)))
      case h2 => exact (ptsd_one (ptd_val (pd_callD T.f_touch (ok_touch T) hr (by decide) (by rfl) (pad_cons (pd_var 5) (pad_cons (pd_var 2) pad_nil)))))
    refine psd_one ?_
    refine (psd_set (i := 1) sc_with_levels.nd rfl (by first | exact .inl rfl | exact .inr rfl) (pd_bin op_add_d (pd_var 1) (pd_f (pf_lst (pad_cons (pd_tup (pad_cons (pd_var 3) (pad_cons (pd_var 2) pad_nil))) pad_nil)))))
  refine psd_one ?_
  refine (psd_ret (pd_f (pf_sorted rfl (room_u70 hr) (by rfl) T.n_sorted (pad_cons (pd_var 1) pad_nil))))
def b_place_of_undone_1 : DTS := (dIfS (tBl (dCall S_touch (dCons (dOp oIx (dVar 0) (dVar 2)) (dCons (dVar 1) dNil)))) (dRet (dIfE (tBl (dOp oEq (dOp oIx (dVar 0) (dVar 2)) (dOp oAdd (dSl (dVar 1) noP (aP (dC (.int 3)))) (dTup (dCons (dNt (dOp oIx (dVar 1) (dC (.int 3)))) dNil))))) (dVar 2) (dC .non))) dNext)
def t_place_of_undone : DTS := (dSeq (dFor (iR3 (dCons (dOp oSub (dCall cLen (dCons (dVar 0) dNil)) (dC (.int 1))) (dCons (dUn oNeg (dC (.int 1))) (dCons (dUn oNeg (dC (.int 1))) dNil)))) (gN 2) b_place_of_undone_1)
  (dRet (dC .non)))
def S_place_of_undone : FD := fun ds Q => ds.length = 2 ∧ t_place_of_undone { nx := fun _ => Q .non, rt := Q } (startD 3 ds)
theorem len_place_of_undone : ∀ ds Q, S_place_of_undone ds Q → ds.length = 2 := fun _ _ h => h.1
theorem vc_place_of_undone : ∀ ds Q, S_place_of_undone ds Q → t_place_of_undone { nx := fun _ => Q .non, rt := Q } (startD 3 ds) := fun _ _ h => h.2
theorem ok_place_of_undone {P : Program} {w : World} {K : PySem.W.Frag} {mg : Str → Option Value} {base : Heap} {B : Bx} (T : Top K mg B.ct) : FnOk P w K mg base CX0 2 T.f_place_of_undone.f T.f_place_of_undone.fd ["kept", "piece"] (spD K B S_place_of_undone) := by
  refine fn_d (k := 1) (t := t_place_of_undone) T.f_place_of_undone.fn sc_place_of_undone len_place_of_undone (fun cdv A outer s H E hr => ?_) vc_place_of_undone
  refine psd_cons ?_ ?_
  · refine psd_for PassesOwn.never rfl (pid_r3 (by rfl) T.n_range ?h2) (pgd_name (i := 2) sc_place_of_undone.nd rfl (by first | exact .inl rfl | exact .inr rfl)) ?_
    case h2 => exact (pad_cons (pd_bin op_sub_d (pd_callB call_len_d (by rfl) T.n_len (by decide +kernel) (pad_cons (pd_var 0) pad_nil)) pd_int) (pad_cons (pd_un un_neg_d pd_int) (pad_cons (pd_un un_neg_d pd_int) pad_nil)))
    refine psd_one ?_
    refine psd_if (ptd_val (pd_callD T.f_touch (ok_touch T) hr (by decide) (by rfl) (pad_cons (pd_ix ix_d (pd_var 0) (pd_var 2)) (pad_cons (pd_var 1) pad_nil)))) ?_ ?_
    · refine psd_one ?_
      refine (psd_ret (pd_ifE (ptd_cmp (op_eq_d hr.units) (pd_ix ix_d (pd_var 0) (pd_var 2)) (pd_bin op_add_d (pd_slice (pd_var 1) pod_none (pod_some pd_int)) (pd_tup (pad_cons (pd_not (pd_ix ix_d (pd_var 1) pd_int)) pad_nil))) (by rfl)) (pd_var 2) pd_non))
    · exact psd_nil
  refine psd_one ?_
  refine (psd_ret pd_non)
def b_without_undone_1 : DTS := (dSeq (dSet 3 (dCall S_place_of_undone (dCons (dVar 1) (dCons (dVar 2) dNil))))
  (dSet 1 (dIfE (tBl (dOp (oIsN false) (dVar 3) (dC .non))) (dOp oAdd (dVar 1) (dF (fLst (dCons (dVar 2) dNil)))) (dOp oAdd (dSl (dVar 1) noP (aP (dVar 3))) (dSl (dVar 1) (aP (dOp oAdd (dVar 3) (dC (.int 1)))) noP)))))
def t_without_undone : DTS := (dSeq (dSet 1 (dF (fLst dNil)))
  (dSeq (dFor (iSeqK (dVar 0)) (gN 2) b_without_undone_1)
  (dRet (dVar 1))))
def S_without_undone : FD := fun ds Q => ds.length = 1 ∧ t_without_undone { nx := fun _ => Q .non, rt := Q } (startD 4 ds)
theorem len_without_undone : ∀ ds Q, S_without_undone ds Q → ds.length = 1 := fun _ _ h => h.1
theorem vc_without_undone : ∀ ds Q, S_without_undone ds Q → t_without_undone { nx := fun _ => Q .non, rt := Q } (startD 4 ds) := fun _ _ h => h.2
theorem ok_without_undone {P : Program} {w : World} {K : PySem.W.Frag} {mg : Str → Option Value} {base : Heap} {B : Bx} (T : Top K mg B.ct) : FnOk P w K mg base CX0 3 T.f_without_undone.f T.f_without_undone.fd ["pieces"] (spD K B S_without_undone) := by
  refine fn_d (k := 2) (t := t_without_undone) T.f_without_undone.fn sc_without_undone len_without_undone (fun cdv A outer s H E hr => ?_) vc_without_undone
  refine psd_cons ?_ ?_
  · refine (psd_set (i := 1) sc_without_undone.nd rfl (by first | exact .inl rfl | exact .inr rfl) (pd_f (pf_lst pad_nil)))
  refine psd_cons ?_ ?_
  · refine psd_for PassesOwn.never rfl (pid_seqK (pd_var 0)) (pgd_name (i := 2) sc_without_undone.nd rfl (by first | exact .inl rfl | exact .inr rfl)) ?_
    refine psd_cons ?_ ?_
    · refine (psd_set (i := 3) sc_without_undone.nd rfl (by first | exact .inl rfl | exact .inr rfl) (pd_callD T.f_place_of_undone (ok_place_of_undone T) hr (by decide) (by rfl) (pad_cons (pd_var 1) (pad_cons (pd_var 2) pad_nil))))
    refine psd_one ?_
    refine (psd_set (i := 1) sc_without_undone.nd rfl (by first | exact .inl rfl | exact .inr rfl) (pd_ifE (ptd_cmp op_isN_d (pd_var 3) pd_non (by rfl)) (pd_bin op_add_d (pd_var 1) (pd_f (pf_lst (pad_cons (pd_var 2) pad_nil)))) (pd_bin op_add_d (pd_slice (pd_var 1) pod_none (pod_some (pd_var 3))) (pd_slice (pd_var 1) (pod_some (pd_bin op_add_d (pd_var 3) pd_int)) pod_none))))
  refine psd_one ?_
  refine (psd_ret (pd_var 1))
def t_in_order : DTS := (dRetE (oF (fLc (iSeq (dCall S_with_levels (dCons (dCall S_without_undone (dCons (dVar 0) dNil)) dNil))) (gT 2 (gsCons (gN 1) (gsCons (gN 2) gsNil))) dYes (dVar 2) [1, 2])))
def S_in_order : FO := fun ds Q => ds.length = 1 ∧ t_in_order { nx := fun _ => Q (.sh .non), rt := fun d => Q (.sh d), ro := Q } (startD 3 ds)
theorem len_in_order : ∀ ds Q, S_in_order ds Q → ds.length = 1 := fun _ _ h => h.1
theorem vc_in_order : ∀ ds Q, S_in_order ds Q → t_in_order { nx := fun _ => Q (.sh .non), rt := fun d => Q (.sh d), ro := Q } (startD 3 ds) := fun _ _ h => h.2
theorem ok_in_order {P : Program} {w : World} {K : PySem.W.Frag} {mg : Str → Option Value} {base : Heap} {B : Bx} (T : Top K mg B.ct) : FnOk P w K mg base CX0 4 T.f_in_order.f T.f_in_order.fd ["pieces"] (spO K B S_in_order) := by
  refine fn_o (k := 3) (t := t_in_order) T.f_in_order.fn sc_in_order len_in_order (fun cdv A outer s H E hr => ?_) vc_in_order
  refine psd_one ?_
  refine (psd_retE (po_f (pf_lc rfl sc_in_order.nd (pid_seq ?h2) (blkOk_by (own := [("level", 1), ("piece", 2)]) (by rfl)) (by decide) (fun _ _ _ _ _ => (pgd_tup rfl (pgsd_cons (pgd_name (i := 1) sc_in_order.nd rfl (by first | exact .inl rfl | exact .inr rfl)) (pgsd_cons (pgd_name (i := 2) sc_in_order.nd rfl (by first | exact .inl rfl | exact .inr rfl)) pgsd_nil)))) (fun _ _ _ _ _ => ptsd_nil) (fun _ _ _ _ _ => (pd_var 2)))))
  case h2 => exact (pd_callD T.f_with_levels (ok_with_levels T) hr (by decide) (by rfl) (pad_cons (pd_callD T.f_without_undone (ok_without_undone T) hr (by decide) (by rfl) (pad_cons (pd_var 0) pad_nil)) pad_nil))
def t_Heap___init__ : DTS := (dSeq (dIfS (tNt (tBl (dCall S_are_pieces (dCons (dVar 1) dNil)))) dNever dNext)
  (dSelf 0 0 5 (dFz (oCall S_in_order (dCons (dVar 1) dNil)))))
def S_Heap___init__ : FI := fun ds Q => ds.length + 1 = 2 ∧ ∀ x, t_Heap___init__ (endI x 5 Q) (startI 2 x 5 ds)
theorem len_Heap___init__ : ∀ ds Q, S_Heap___init__ ds Q → ds.length + 1 = 2 := fun _ _ h => h.1
theorem vc_Heap___init__ : ∀ x ds Q, S_Heap___init__ ds Q → t_Heap___init__ (endI x 5 Q) (startI 2 x 5 ds) := fun x _ _ h => h.2 x
theorem ok_Heap___init__ {P : Program} {w : World} {K : PySem.W.Frag} {mg : Str → Option Value} {base : Heap} {B : Bx} (T : Top K mg B.ct) : FnOk P w K mg base CX0 5 T.i_Heap___init__.f T.i_Heap___init__.fd ["self", "pieces"] (spI K B 5 S_Heap___init__) := by
  refine fn_initD (k := 4) (t := t_Heap___init__) T.i_Heap___init__.fn sc_Heap___init__ len_Heap___init__ (by decide) (fun cdv A outer s H E hr => ?_) vc_Heap___init__
  refine psd_cons ?_ ?_
  · refine psd_if (ptd_not (ptd_val (pd_callD T.f_are_pieces (ok_are_pieces T) hr (by decide) (by rfl) (pad_cons (pd_var 1) pad_nil)))) ?_ ?_
    · refine psd_one ?_
      refine psd_never
    · exact psd_nil
  refine psd_one ?_
  refine (psd_selfD T.c_Heap T.s_Heap_kept_pieces (pv 0) (pd_fz (po_callD T.f_in_order (ok_in_order T) hr (by decide) (by rfl) (pad_cons (pd_var 1) pad_nil))))
def to_Heap___init__ : DTS := (dSeq (dIfS (tBor 1 (tNt (tBl (dCall S_are_pieces (dCons (dVar 1) dNil))))) dNever dNext)
  (dSelf 0 0 5 (dFz (oBorL 1 (oCall S_in_order (dCons (dVar 1) dNil))))))
def So_Heap___init__ : FI := fun ds Q => ∀ x p, to_Heap___init__ (endIO x 5 p ds Q) (startIO 2 x 5 p ds)
theorem oko_Heap___init__ {P : Program} {w : World} {K : PySem.W.Frag} {mg : Str → Option Value} {base : Heap} {B : Bx} (T : Top K mg B.ct) : FnOk P w K mg base CX0 5 T.i_Heap___init__.f T.i_Heap___init__.fd ["self", "pieces"] (spIO K B 5 So_Heap___init__) := by
  refine fn_initDO (k := 4) (t := to_Heap___init__) T.i_Heap___init__.fn sc_Heap___init__ rfl (by decide) (fun cdv A outer s H E hr => ?_) (fun x p _ _ h => h x p)
  refine psd_cons ?_ ?_
  · refine psd_if (ptd_bor 1 (ptd_not (ptd_val (pd_callD T.f_are_pieces (ok_are_pieces T) hr (by decide) (by rfl) (pad_cons (pd_var 1) pad_nil))))) ?_ ?_
    · refine psd_one ?_
      refine psd_never
    · exact psd_nil
  refine psd_one ?_
  refine (psd_selfD T.c_Heap T.s_Heap_kept_pieces (pv 0) (pd_fz (po_borL 1 (po_callD T.f_in_order (ok_in_order T) hr (by decide) (by rfl) (pad_cons (pd_var 1) pad_nil)))))
theorem r0_Heap___init__ {P : Program} {w : World} {K : PySem.W.Frag} {mg : Str → Option Value} {base : Heap} {B : Bx} (T : Top K mg B.ct) : FnR P w K mg base CX0 5 T.i_Heap___init__.f (spI K B 5 (dflI S_Heap___init__)) := fn_r0 T.i_Heap___init__ (ok_Heap___init__ T)
theorem r_Heap___init__ {P : Program} {w : World} {K : PySem.W.Frag} {mg : Str → Option Value} {base : Heap} {B : Bx} (T : Top K mg B.ct) : FnR P w K mg base CX0 5 T.i_Heap___init__.f (spI K B 5 S_Heap___init__) := fn_r (ok_Heap___init__ T) T.i_Heap___init__.bd
def t_Heap___contains__ : DTS := (dRet (dAn (dCall S_is_piece (dCons (dVar 1) dNil)) (dOp (oInP false) (dVar 1) (dFld 5 0 (dVar 0)))))
def S_Heap___contains__ : FD := fun ds Q => ds.length = 2 ∧ t_Heap___contains__ { nx := fun _ => Q .non, rt := Q } (startD 2 ds)
theorem len_Heap___contains__ : ∀ ds Q, S_Heap___contains__ ds Q → ds.length = 2 := fun _ _ h => h.1
theorem vc_Heap___contains__ : ∀ ds Q, S_Heap___contains__ ds Q → t_Heap___contains__ { nx := fun _ => Q .non, rt := Q } (startD 2 ds) := fun _ _ h => h.2
theorem ok_Heap___contains__ {P : Program} {w : World} {K : PySem.W.Frag} {mg : Str → Option Value} {base : Heap} {B : Bx} (T : Top K mg B.ct) : FnOk P w K mg base CX0 4 T.i_Heap___contains__.f T.i_Heap___contains__.fd ["self", "thing"] (spD K B S_Heap___contains__) := by
  refine fn_d (k := 3) (t := t_Heap___contains__) T.i_Heap___contains__.fn sc_Heap___contains__ len_Heap___contains__ (fun cdv A outer s H E hr => ?_) vc_Heap___contains__
  refine psd_one ?_
  refine (psd_ret (pd_and (pd_callD T.f_is_piece (ok_is_piece T) hr (by decide) (by rfl) (pad_cons (pd_var 1) pad_nil)) (pd_1 (pd_cmp (op_inP (room_u65 hr)) (pd_var 1) (pd_fldD T.c_Heap T.s_Heap_kept_pieces (pd_var 0)) (by rfl)))))
theorem r_Heap___contains__ {P : Program} {w : World} {K : PySem.W.Frag} {mg : Str → Option Value} {base : Heap} {B : Bx} (T : Top K mg B.ct) : FnR P w K mg base CX0 4 T.i_Heap___contains__.f (spD K B S_Heap___contains__) := fn_r (ok_Heap___contains__ T) T.i_Heap___contains__.bd
theorem ok_Heap___iter__ {P : Program} {w : World} {K : PySem.W.Frag} {mg : Str → Option Value} {base : Heap} {B : Bx} (T : Top K mg B.ct) : FnOk P w K mg base CX0 1 T.i_Heap___iter__.f T.i_Heap___iter__.fd ["self"] (spIt K B 5 0) := by
  refine fn_it (k := 0) (fld := "kept_pieces") T.i_Heap___iter__.fn sc_Heap___iter__ rfl T.c_Heap T.s_Heap_kept_pieces (fun _ => rfl) (fun cdv A outer s H E hr => ?_)
  exact pss_one (ps_ret (pe_callB call_iterL (by rfl) T.n_iter (by decide +kernel) (pa_cons (SlX.pe_sl (pv 0)) pa_nil)))
theorem r_Heap___iter__ {P : Program} {w : World} {K : PySem.W.Frag} {mg : Str → Option Value} {base : Heap} {B : Bx} (T : Top K mg B.ct) : FnR P w K mg base CX0 1 T.i_Heap___iter__.f (spIt K B 5 0) := fn_r (ok_Heap___iter__ T) T.i_Heap___iter__.bd
def t_Heap___len__ : DTS := (dRet (dCall cLen (dCons (dFld 5 0 (dVar 0)) dNil)))
def S_Heap___len__ : FD := fun ds Q => ds.length = 1 ∧ t_Heap___len__ { nx := fun _ => Q .non, rt := Q } (startD 1 ds)
theorem len_Heap___len__ : ∀ ds Q, S_Heap___len__ ds Q → ds.length = 1 := fun _ _ h => h.1
theorem vc_Heap___len__ : ∀ ds Q, S_Heap___len__ ds Q → t_Heap___len__ { nx := fun _ => Q .non, rt := Q } (startD 1 ds) := fun _ _ h => h.2
theorem ok_Heap___len__ {P : Program} {w : World} {K : PySem.W.Frag} {mg : Str → Option Value} {base : Heap} {B : Bx} (T : Top K mg B.ct) : FnOk P w K mg base CX0 1 T.i_Heap___len__.f T.i_Heap___len__.fd ["self"] (spD K B S_Heap___len__) := by
  refine fn_d (k := 0) (t := t_Heap___len__) T.i_Heap___len__.fn sc_Heap___len__ len_Heap___len__ (fun cdv A outer s H E hr => ?_) vc_Heap___len__
  refine psd_one ?_
  refine (psd_ret (pd_callB call_len_d (by rfl) T.n_len (by decide +kernel) (pad_cons (pd_fldD T.c_Heap T.s_Heap_kept_pieces (pd_var 0)) pad_nil)))
theorem r_Heap___len__ {P : Program} {w : World} {K : PySem.W.Frag} {mg : Str → Option Value} {base : Heap} {B : Bx} (T : Top K mg B.ct) : FnR P w K mg base CX0 1 T.i_Heap___len__.f (spD K B S_Heap___len__) := fn_r (ok_Heap___len__ T) T.i_Heap___len__.bd
def t_Heap_firsts : DTS := (dRetE (oF (fSorted (dCons (dF (fLc (iSeq (dCall S_with_levels (dCons (dFld 5 0 (dVar 0)) dNil))) (gT 2 (gsCons (gN 1) (gsCons (gN 2) gsNil))) (tBl (dOp oEq (dVar 1) (dC (.int 0)))) (dVar 2) [1, 2])) dNil))))
def S_Heap_firsts : FO := fun ds Q => ds.length = 1 ∧ t_Heap_firsts { nx := fun _ => Q (.sh .non), rt := fun d => Q (.sh d), ro := Q } (startD 3 ds)
theorem len_Heap_firsts : ∀ ds Q, S_Heap_firsts ds Q → ds.length = 1 := fun _ _ h => h.1
theorem vc_Heap_firsts : ∀ ds Q, S_Heap_firsts ds Q → t_Heap_firsts { nx := fun _ => Q (.sh .non), rt := fun d => Q (.sh d), ro := Q } (startD 3 ds) := fun _ _ h => h.2
theorem ok_Heap_firsts {P : Program} {w : World} {K : PySem.W.Frag} {mg : Str → Option Value} {base : Heap} {B : Bx} (T : Top K mg B.ct) : FnOk P w K mg base CX0 3 T.i_Heap_firsts.f T.i_Heap_firsts.fd ["self"] (spO K B S_Heap_firsts) := by
  refine fn_o (k := 2) (t := t_Heap_firsts) T.i_Heap_firsts.fn sc_Heap_firsts len_Heap_firsts (fun cdv A outer s H E hr => ?_) vc_Heap_firsts
  refine psd_one ?_
  refine (psd_retE (po_f (pf_sorted rfl (room_u70 hr) (by rfl) T.n_sorted (pad_cons (pd_f (pf_lc rfl sc_Heap_firsts.nd (pid_seq ?h2) (blkOk_by (own := [("level", 1), ("piece", 2)]) (by rfl)) (by decide) (fun _ _ _ _ _ => (pgd_tup rfl (pgsd_cons (pgd_name (i := 1) sc_Heap_firsts.nd rfl (by first | exact .inl rfl | exact .inr rfl)) (pgsd_cons (pgd_name (i := 2) sc_Heap_firsts.nd rfl (by first | exact .inl rfl | exact .inr rfl)) pgsd_nil)))) (fun _ _ _ _ _ => (ptsd_one (ptd_cmp (op_eq_d hr.units) (pd_var 1) pd_int (by rfl)))) (fun _ _ _ _ _ => (pd_var 2)))) pad_nil))))
  case h2 => exact (pd_callD T.f_with_levels (ok_with_levels T) hr (by decide) (by rfl) (pad_cons (pd_fldD T.c_Heap T.s_Heap_kept_pieces (pd_var 0)) pad_nil))
theorem r_Heap_firsts {P : Program} {w : World} {K : PySem.W.Frag} {mg : Str → Option Value} {base : Heap} {B : Bx} (T : Top K mg B.ct) : FnR P w K mg base CX0 3 T.i_Heap_firsts.f (spO K B S_Heap_firsts) := fn_r (ok_Heap_firsts T) T.i_Heap_firsts.bd
def t_Heap_lasts : DTS := (dRetE (oF (fSorted (dCons (dF (fLc (iSeq (dCall S_with_levels (dCons (dF (fRev (dFld 5 0 (dVar 0)))) dNil))) (gT 2 (gsCons (gN 1) (gsCons (gN 2) gsNil))) (tBl (dOp oEq (dVar 1) (dC (.int 0)))) (dVar 2) [1, 2])) dNil))))
def S_Heap_lasts : FO := fun ds Q => ds.length = 1 ∧ t_Heap_lasts { nx := fun _ => Q (.sh .non), rt := fun d => Q (.sh d), ro := Q } (startD 3 ds)
theorem len_Heap_lasts : ∀ ds Q, S_Heap_lasts ds Q → ds.length = 1 := fun _ _ h => h.1
theorem vc_Heap_lasts : ∀ ds Q, S_Heap_lasts ds Q → t_Heap_lasts { nx := fun _ => Q (.sh .non), rt := fun d => Q (.sh d), ro := Q } (startD 3 ds) := fun _ _ h => h.2
theorem ok_Heap_lasts {P : Program} {w : World} {K : PySem.W.Frag} {mg : Str → Option Value} {base : Heap} {B : Bx} (T : Top K mg B.ct) : FnOk P w K mg base CX0 3 T.i_Heap_lasts.f T.i_Heap_lasts.fd ["self"] (spO K B S_Heap_lasts) := by
  refine fn_o (k := 2) (t := t_Heap_lasts) T.i_Heap_lasts.fn sc_Heap_lasts len_Heap_lasts (fun cdv A outer s H E hr => ?_) vc_Heap_lasts
  refine psd_one ?_
  refine (psd_retE (po_f (pf_sorted rfl (room_u70 hr) (by rfl) T.n_sorted (pad_cons (pd_f (pf_lc rfl sc_Heap_lasts.nd (pid_seq ?h2) (blkOk_by (own := [("level", 1), ("piece", 2)]) (by rfl)) (by decide) (fun _ _ _ _ _ => (pgd_tup rfl (pgsd_cons (pgd_name (i := 1) sc_Heap_lasts.nd rfl (by first | exact .inl rfl | exact .inr rfl)) (pgsd_cons (pgd_name (i := 2) sc_Heap_lasts.nd rfl (by first | exact .inl rfl | exact .inr rfl)) pgsd_nil)))) (fun _ _ _ _ _ => (ptsd_one (ptd_cmp (op_eq_d hr.units) (pd_var 1) pd_int (by rfl)))) (fun _ _ _ _ _ => (pd_var 2)))) pad_nil))))
  case h2 => exact (pd_callD T.f_with_levels (ok_with_levels T) hr (by decide) (by rfl) (pad_cons (pd_f (pf_rev (pd_fldD T.c_Heap T.s_Heap_kept_pieces (pd_var 0)))) pad_nil))
theorem r_Heap_lasts {P : Program} {w : World} {K : PySem.W.Frag} {mg : Str → Option Value} {base : Heap} {B : Bx} (T : Top K mg B.ct) : FnR P w K mg base CX0 3 T.i_Heap_lasts.f (spO K B S_Heap_lasts) := fn_r (ok_Heap_lasts T) T.i_Heap_lasts.bd
def b_Heap_levels_1 : DTS := (dSetdApp 1 (dVar 2) (dVar 3))
def t_Heap_levels : DTS := (dSeq (dSetT 1 (oDic0 false))
  (dSeq (dFor (iSeq (dCall S_with_levels (dCons (dFld 5 0 (dVar 0)) dNil))) (gT 2 (gsCons (gN 2) (gsCons (gN 3) gsNil))) b_Heap_levels_1)
  (dRetVals 1 (iSeq (dF (fBor 1 (fSorted (dCons (dVar 1) dNil))))) (gN 2) (rDx (rVar 1) (dVar 2)) [2])))
def S_Heap_levels : FO := fun ds Q => ds.length = 1 ∧ t_Heap_levels { nx := fun _ => Q (.sh .non), rt := fun d => Q (.sh d), ro := Q } (startD 4 ds)
theorem len_Heap_levels : ∀ ds Q, S_Heap_levels ds Q → ds.length = 1 := fun _ _ h => h.1
theorem vc_Heap_levels : ∀ ds Q, S_Heap_levels ds Q → t_Heap_levels { nx := fun _ => Q (.sh .non), rt := fun d => Q (.sh d), ro := Q } (startD 4 ds) := fun _ _ h => h.2
theorem ok_Heap_levels {P : Program} {w : World} {K : PySem.W.Frag} {mg : Str → Option Value} {base : Heap} {B : Bx} (T : Top K mg B.ct) : FnOk P w K mg base CX0 3 T.i_Heap_levels.f T.i_Heap_levels.fd ["self"] (spO K B S_Heap_levels) := by
  refine fn_o (k := 2) (t := t_Heap_levels) T.i_Heap_levels.fn sc_Heap_levels len_Heap_levels (fun cdv A outer s H E hr => ?_) vc_Heap_levels
  refine psd_cons ?_ ?_
  · refine (psd_setT (i := 1) sc_Heap_levels.nd rfl (by first | exact .inl rfl | exact .inr rfl) po_dicK)
  refine psd_cons ?_ ?_
  · refine psd_for PassesOwn.never rfl (pid_seq ?h3) (pgd_tup rfl (pgsd_cons (pgd_name (i := 2) sc_Heap_levels.nd rfl (by first | exact .inl rfl | exact .inr rfl)) (pgsd_cons (pgd_name (i := 3) sc_Heap_levels.nd rfl (by first | exact .inl rfl | exact .inr rfl)) pgsd_nil))) ?_
    case h3 => exact (pd_callD T.f_with_levels (ok_with_levels T) hr (by decide) (by rfl) (pad_cons (pd_fldD T.c_Heap T.s_Heap_kept_pieces (pd_var 0)) pad_nil))
    refine psd_one ?_
    refine (psd_setdApp (i := 1) (pv 1) (pd_var 2) (pd_var 3) ⟨rfl, rfl, rfl, rfl⟩)
  refine psd_one ?_
  refine (psd_retVals (i := 1) rfl sc_Heap_levels.nd (pid_seq ?h4) (blkOk_by (own := [("level", 2)]) (by rfl)) (by decide) (by decide) (fun _ _ _ _ _ => (pgd_name (i := 2) sc_Heap_levels.nd rfl (by first | exact .inl rfl | exact .inr rfl))) (fun _ _ _ _ _ => ptsd_nil) (fun _ _ _ _ _ => pr_dx (room_u1 hr) (pr_var (pv 1)) (pd_var 2)))
  case h4 => exact (pd_f (pf_bor 1 (pf_sorted rfl (room_u70 hr) (by rfl) T.n_sorted (pad_cons (pd_var 1) pad_nil))))
theorem r_Heap_levels {P : Program} {w : World} {K : PySem.W.Frag} {mg : Str → Option Value} {base : Heap} {B : Bx} (T : Top K mg B.ct) : FnR P w K mg base CX0 3 T.i_Heap_levels.f (spO K B S_Heap_levels) := fn_r (ok_Heap_levels T) T.i_Heap_levels.bd
def t_is_side : DTS := (dRet (dAn (dIsiA "str" [5] (dVar 0)) (dOp (oIn false) (dVar 0) (dC c_SIDES))))
def S_is_side : FD := fun ds Q => ds.length = 1 ∧ t_is_side { nx := fun _ => Q .non, rt := Q } (startD 1 ds)
theorem len_is_side : ∀ ds Q, S_is_side ds Q → ds.length = 1 := fun _ _ h => h.1
theorem vc_is_side : ∀ ds Q, S_is_side ds Q → t_is_side { nx := fun _ => Q .non, rt := Q } (startD 1 ds) := fun _ _ h => h.2
theorem ok_is_side {P : Program} {w : World} {K : PySem.W.Frag} {mg : Str → Option Value} {base : Heap} {B : Bx} (T : Top K mg B.ct) : FnOk P w K mg base CX0 1 T.f_is_side.f T.f_is_side.fd ["thing"] (spD K B S_is_side) := by
  refine fn_d (k := 0) (t := t_is_side) T.f_is_side.fn sc_is_side len_is_side (fun cdv A outer s H E hr => ?_) vc_is_side
  refine psd_one ?_
  refine (psd_ret (pd_and (pd_isiA known_str (by decide) T.ob_all (by rfl) T.n_isinstance (by rfl) T.n_str (by decide +kernel) (pd_var 0)) (pd_1 (pd_cmp op_in_d (pd_var 0) (pd_glob (v := .ref T.a_SIDES) (by rfl) T.g_SIDES rfl (T.d_SIDES B)) (by rfl)))))
def t_Heap_pieces_of : DTS := (dSeq (dIfS (tOrr (tNt (tBl (dIsiA "tuple" [5] (dVar 1)))) (tOrr (tBl (dOp oNe (dCall cLen (dCons (dVar 1) dNil)) (dC (.int 2)))) (tOrr (tNt (tBl (dCall S_is_side (dCons (dOp oIx (dVar 1) (dC (.int 0))) dNil)))) (tNt (tBl (dCall S_is_count (dCons (dOp oIx (dVar 1) (dC (.int 1))) dNil))))))) (dRetE (oF (fLst dNil))) dNext)
  (dRetE (oF (fLc (iSeq (dFld 5 0 (dVar 0))) (gN 2) (tBl (dOp oEq (dOp oIx (dVar 2) (dCall cInt (dCons (dOp oEq (dOp oIx (dVar 1) (dC (.int 0))) (dC (.str (Str.ofString "moon")))) dNil))) (dOp oIx (dVar 1) (dC (.int 1))))) (dVar 2) [2]))))
def S_Heap_pieces_of : FO := fun ds Q => ds.length = 2 ∧ t_Heap_pieces_of { nx := fun _ => Q (.sh .non), rt := fun d => Q (.sh d), ro := Q } (startD 3 ds)
theorem len_Heap_pieces_of : ∀ ds Q, S_Heap_pieces_of ds Q → ds.length = 2 := fun _ _ h => h.1
theorem vc_Heap_pieces_of : ∀ ds Q, S_Heap_pieces_of ds Q → t_Heap_pieces_of { nx := fun _ => Q (.sh .non), rt := fun d => Q (.sh d), ro := Q } (startD 3 ds) := fun _ _ h => h.2
theorem ok_Heap_pieces_of {P : Program} {w : World} {K : PySem.W.Frag} {mg : Str → Option Value} {base : Heap} {B : Bx} (T : Top K mg B.ct) : FnOk P w K mg base CX0 3 T.i_Heap_pieces_of.f T.i_Heap_pieces_of.fd ["self", "ribbon"] (spO K B S_Heap_pieces_of) := by
  refine fn_o (k := 2) (t := t_Heap_pieces_of) T.i_Heap_pieces_of.fn sc_Heap_pieces_of len_Heap_pieces_of (fun cdv A outer s H E hr => ?_) vc_Heap_pieces_of
  refine psd_cons ?_ ?_
  · refine psd_if (pwd_or (ptd_not (ptd_val (pd_isiA known_tuple (by decide) T.ob_all (by rfl) T.n_isinstance (by rfl) T.n_tuple (by decide +kernel) (pd_var 1)))) (pwd_or (ptd_cmp (op_ne_d hr.units) (pd_callB call_len_d (by rfl) T.n_len (by decide +kernel) (pad_cons (pd_var 1) pad_nil)) pd_int (by rfl)) (pwd_or (ptd_not (ptd_val (pd_callD T.f_is_side (ok_is_side T) hr (by decide) (by rfl) (pad_cons (pd_ix ix_d (pd_var 1) pd_int) pad_nil)))) (pwd_or1 (ptd_not (ptd_val (pd_callD T.f_is_count (ok_is_count T) hr (by decide) (by rfl) (pad_cons (pd_ix ix_d (pd_var 1) pd_int) pad_nil)))))))).pt ?_ ?_
    · refine psd_one ?_
      refine (psd_retE (po_f (pf_lst pad_nil)))
    · exact psd_nil
  refine psd_one ?_
  refine (psd_retE (po_f (pf_lc rfl sc_Heap_pieces_of.nd (pid_seq ?h3) (blkOk_by (own := [("piece", 2)]) (by rfl)) (by decide) (fun _ _ _ _ _ => (pgd_name (i := 2) sc_Heap_pieces_of.nd rfl (by first | exact .inl rfl | exact .inr rfl))) (fun _ _ _ _ _ => ?h4) (fun _ _ _ _ _ => (pd_var 2)))))
  case h3 => exact (pd_fldD T.c_Heap T.s_Heap_kept_pieces (pd_var 0))
  case h4 => exact (ptsd_one (ptd_cmp (op_eq_d hr.units) (pd_ix ix_d (pd_var 2) (pd_callTy call_int_d (by rfl) T.n_int (by decide +kernel) (pad_cons (pd_cmp (op_eq_d hr.units) (pd_ix ix_d (pd_var 1) pd_int) pd_str (by rfl)) pad_nil))) (pd_ix ix_d (pd_var 1) pd_int) (by rfl)))
theorem r_Heap_pieces_of {P : Program} {w : World} {K : PySem.W.Frag} {mg : Str → Option Value} {base : Heap} {B : Bx} (T : Top K mg B.ct) : FnR P w K mg base CX0 3 T.i_Heap_pieces_of.f (spO K B S_Heap_pieces_of) := fn_r (ok_Heap_pieces_of T) T.i_Heap_pieces_of.bd
def absI (i : Int) : Int := if i < 0 then -i else i
def spBag (K : PySem.W.Frag) : Sp := fun vs H P _ => ∃ (a : Addr) (ns : List Int), vs = [.ref a] ∧ SqL K H a (ns.map V.int) ∧ ns.length ≤ 63 ∧
  ∀ b L H2, H b = none → H L = none → L ≠ b → Ex H H2 → H2 b = some (.lst [.int 0, .int 1234567891, .int 0, .ref L]) → H2 L = some (.lst ((ns.map absI).map V.int)) → P (.ref b) H2
theorem ok__law_bag {P : Program} {w : World} {K : PySem.W.Frag} {mg : Str → Option Value} {base : Heap} {ct : Nat → Addr} (T : Top K mg ct) : FnOk P w K mg base CX0 1 T.f__law_bag.f T.f__law_bag.fd ["_law_script"] (spBag K) := by
  refine T.f__law_bag.fn.ok sc__law_bag (fun vs H Q E h => ?_) (fun cdv A outer s H vs Q E hr h => ?_)
  · obtain ⟨a, ns, rfl, _⟩ := h
    rfl
  obtain ⟨a, ns, rfl, hS, hl, q⟩ := h
  refine ⟨_, pss_one (ps_ret (pe_lst (pa_cons pe_int (pa_cons pe_int (pa_cons pe_int (pa_cons (pe_lc (own := [("_law_cell", 1)]) (g := gName 1) (tt := tYes) rfl sc__law_bag.nd (pi_list (pe_slice sl_list (pv 0) po_none (po_some pe_int)))
    (blkOk_by (by rfl)) (fun _ _ _ _ _ => pg_name (i := 1) sc__law_bag.nd rfl (.inl rfl)) (fun _ _ _ _ _ => pts_nil) (fun _ _ _ _ _ => pe_callB call_abs (by rfl) T.n_abs (by decide +kernel) (pa_cons (pv 1) pa_nil))) pa_nil)))))), ?_⟩
  have hcut : cutV (ns.map V.int) none (some 63) = ns.map V.int := by
    show DL.cut (ns.map V.int) none (some ((63 : Nat) : Int)) = _
    rw [cut_to]
    exact List.take_of_length_le (by rw [List.length_map]; exact hl)
  have ev : EvL (tSl (rSlL K) (tVar 0) tNoPart (tPart (tC (.int 63)))) [some (.ref a), none] H (ns.map V.int) := by
    have := el_sl (K := K) (ev_var (σ := [some (.ref a), none]) (H := H) (i := 0) (v := .ref a) rfl) eo_none (eo_some (ev_c (v := .int 63))) hS
    rw [hcut] at this
    exact this
  have key := el_lcNL (K := K) (j := 1) (vs := [1]) (t := tYes) (te := tCB (fun xs H Q => ∃ i, xs = [.int i] ∧ Q (.int (if i < 0 then -i else i)) H) (tCons (tVar 1) tNil)) (fun _ => true) (fun i => .int (absI (ns.getD i 0))) ev (by rw [List.length_map]; omega) (fun x => rfl)
    (fun i x H1 _ _ H2 _ R r => r H2 (Ex.refl _)) (fun i x H1 _ hx _ H2 _ R r => by
      rw [List.getElem?_map] at hx
      cases e : ns[i]? with
      | none => rw [e] at hx; cases hx
      | some m =>
        rw [e] at hx
        cases hx
        refine ⟨.int m, rfl, m, rfl, ?_⟩
        have e2 : absI (ns.getD i 0) = if m < 0 then -m else m := by
          rw [List.getD_eq_getElem?_getD, e]
          rfl
        rw [← e2]
        exact r H2 (Ex.refl _))
  have e3 : given (ns.map V.int).length (fun _ => true) (fun i => V.int (absI (ns.getD i 0))) = (ns.map absI).map V.int := by
    unfold given
    rw [List.filter_eq_self.mpr (fun _ _ => rfl), List.map_map]
    apply List.ext_getElem?
    intro i
    rw [List.getElem?_map, List.getElem?_map, List.length_map]
    by_cases hi : i < ns.length
    · rw [List.getElem?_range hi, List.getElem?_eq_getElem hi]
      show some (V.int (absI (ns.getD i 0))) = some (V.int (absI ns[i]))
      rw [List.getD_eq_getElem?_getD, List.getElem?_eq_getElem hi]
      rfl
    · rw [List.getElem?_eq_none_iff.mpr (by rw [List.length_range]; omega), List.getElem?_eq_none_iff.mpr (by omega)]
      rfl
  rw [e3] at key
  have fin := key H (Ex.refl H) (fun x H1 => [V.int 0, V.int 1234567891, V.int 0, x].length ≤ sizeLine ∧ ∀ p, H1 p = none → Q (.ref p) (upd H1 p (.lst [V.int 0, V.int 1234567891, V.int 0, x]))) (fun L H1 hL e1 h1 => ⟨by show 4 ≤ sizeLine; decide, fun b hb => q b L _ (fresh_back e1 hb) hL (ne_of_none h1 hb) (e1.trans (Ex.new hb)) upd_same (by rw [upd_ne (ne_of_none h1 hb)]; exact h1)⟩)
  exact fin
def t__law_contrary : DTS := (dRet (dOp oAdd (dSl (dVar 0) noP (aP (dC (.int 3)))) (dTup (dCons (dNt (dOp oIx (dVar 0) (dC (.int 3)))) dNil))))
def S__law_contrary : FD := fun ds Q => ds.length = 1 ∧ t__law_contrary { nx := fun _ => Q .non, rt := Q } (startD 1 ds)
theorem len__law_contrary : ∀ ds Q, S__law_contrary ds Q → ds.length = 1 := fun _ _ h => h.1
theorem vc__law_contrary : ∀ ds Q, S__law_contrary ds Q → t__law_contrary { nx := fun _ => Q .non, rt := Q } (startD 1 ds) := fun _ _ h => h.2
theorem ok__law_contrary {P : Program} {w : World} {K : PySem.W.Frag} {mg : Str → Option Value} {base : Heap} {B : Bx} (T : Top K mg B.ct) : FnOk P w K mg base CX0 1 T.f__law_contrary.f T.f__law_contrary.fd ["_law_piece_here"] (spD K B S__law_contrary) := by
  refine fn_d (k := 0) (t := t__law_contrary) T.f__law_contrary.fn sc__law_contrary len__law_contrary (fun cdv A outer s H E hr => ?_) vc__law_contrary
  refine psd_one ?_
  refine (psd_ret (pd_bin op_add_d (pd_slice (pd_var 0) pod_none (pod_some pd_int)) (pd_tup (pad_cons (pd_not (pd_ix ix_d (pd_var 0) pd_int)) pad_nil))))
theorem bag_set {K : PySem.W.Frag} {B : Bx} {G0 H0 G H : Hp} {a b c : Int} {ns : List Int} (g : Gr K B G0 H0 G H) (hL : SqL K G B.L (ns.map V.int)) (h1 : 0 ≤ a) (h2 : 0 ≤ b) (h3 : b < 2147483647) (h4 : 0 ≤ c) (h5 : ∀ n ∈ ns, 0 ≤ n) (h6 : ns.length ≤ 63) :
    Gr K B G0 H0 G (upd H B.b (.lst [.int a, .int b, .int c, .ref B.L])) := by
  refine ⟨g.ex, fun x o n h => by rw [upd_ne n.1]; exact g.kp x o n h, ⟨fun x o h => ?_, g.j.no, ⟨a, b, c, ns, upd_same, hL, h1, h2, h3, h4, h5, h6⟩, { tb := fun t h => ?_, ex := g.j.xt.ex, keep := fun u h a o s e => by rw [upd_ne s.1]; exact g.j.xt.keep u h a o s e, old := g.j.xt.old }⟩, g.old⟩
  · have nx : x ≠ B.b := fun e => by subst e; rw [g.j.no] at h; cases h
    rw [upd_ne nx]
    exact g.j.ex x o h
  · obtain ⟨⟨ps, z1, z2⟩, z3⟩ := g.j.xt.tb t h
    have nt : t.1 ≠ B.b := fun e => by
      obtain ⟨_, _, _, _, ho, _⟩ := g.j.bag
      rw [e, ho] at z1
      cases z1
    exact ⟨⟨ps, by rw [upd_ne nt]; exact z1, z2⟩, z3⟩
set_option maxHeartbeats 16000000 in
theorem ok__law_take {P : Program} {w : World} {K : PySem.W.Frag} {mg : Str → Option Value} {base : Heap} {B : Bx} (T : Top K mg B.ct) : FnOk P w K mg base CX0 1 T.f__law_take.f T.f__law_take.fd ["_law_bag_here", "_law_many"] (spD K B S__law_take) := by
  refine T.f__law_take.fn.ok sc__law_take (fun vs H Q E h => ?_) (fun cdv A outer s H vs Q E hr h => ?_)
  · obtain ⟨G, ds, R, j, hd, hs, _⟩ := h
    rw [hd.len]
    match ds, hs with
    | [.bag, .int _], _ => rfl
  obtain ⟨G, ds, R, j, hd, hs, kk⟩ := h
  match ds, hs, hd with
  | [.bag, .int n], ⟨⟨n0, n1⟩, hR⟩, .cons .bag (.cons (.int _) .nil) =>
  have kv : ∀ (v : Int) (H2 : Hp), 0 ≤ v → v < n → Gr K B G H G H2 → Q (.int v) H2 := fun v H2 v0 v1 g => kk _ _ G H2 (hR v v0 v1) g (.int _)
  refine ⟨_, pss_cut (ps_if (pt_cmpR op_eq (pe_ix ix_list (pv 0) pe_int (fun _ _ => rfl)) pe_int (nomark _))
      (pss_cons (ps_set (i := 2) sc__law_take.nd rfl (.inl rfl) pe_int)
      (pss_cut (ps_if (pt_cmpR op_lt (pe_ix ix_list (pv 0) pe_int (fun _ _ => rfl)) (pe_callB call_len_seq (by rfl) T.n_len PySem.boot_len (pa_cons (pe_ix ix_list (pv 0) pe_int (fun _ _ => rfl)) pa_nil)) (nomark _))
          (pss_one (ps_set (i := 2) sc__law_take.nd rfl (.inl rfl) (pe_ix ix_list (pe_ix ix_list (pv 0) pe_int (fun _ _ => rfl)) (pe_ix ix_list (pv 0) pe_int (fun _ _ => rfl)) (fun _ _ => rfl)))) pss_nil)
      (pss_cons (ps_augS (pv 0) pe_int get_list pe_int ip_add set_list)
      (pss_cut (ps_if (pt_cmpR op_ge (pv 2) pe_int (nomark _)) (pss_one (ps_asg (pv 2) (pg_sub (pv 0) pe_int set_list))) pss_nil)
      (pss_cons (ps_set (i := 3) sc__law_take.nd rfl (.inl rfl) (pe_op op_add (pe_op op_add (pe_op op_mul (pe_ix ix_list (pv 0) pe_int (fun _ _ => rfl)) pe_int) (pe_op op_mod (pe_callTy call_int1 (by rfl) T.n_int (by decide +kernel) (pa_cons (pv 2) pa_nil)) pe_int)) (pe_op op_mul pe_int (pe_ix ix_list (pv 0) pe_int (fun _ _ => rfl)))))
      (pss_one (ps_asg (pe_op op_mod (pe_callTy call_int1 (by rfl) T.n_int (by decide +kernel) (pa_cons (pv 3) pa_nil)) pe_int) (pg_sub (pv 0) pe_int set_list)))))))) pss_nil)
    (pss_cons (ps_if (pt_cmpR op_gt (pe_ix ix_list (pv 0) pe_int (fun _ _ => rfl)) pe_int (nomark _))
        (pss_cons (ps_set (i := 4) sc__law_take.nd rfl (.inl rfl) (pe_op op_mod (pe_callTy call_int1 (by rfl) T.n_int (by decide +kernel) (pa_cons (pe_ix ix_list (pv 0) pe_int (fun _ _ => rfl)) pa_nil)) (pv 1)))
        (pss_cons (ps_asg (pe_op op_fdivW (pe_ix ix_list (pv 0) pe_int (fun _ _ => rfl)) (pv 1)) (pg_sub (pv 0) pe_int set_list))
        (pss_one (ps_ret (pv 4))))) pss_nil)
    (pss_cons (ps_set (i := 5) sc__law_take.nd rfl (.inl rfl) (pe_op op_mod (pe_callTy call_int1 (by rfl) T.n_int (by decide +kernel) (pa_cons (pe_op op_mul (pe_op op_add (pe_ix ix_list (pv 0) pe_int (fun _ _ => rfl)) pe_int) pe_int) pa_nil)) pe_int))
    (pss_cons (ps_set (i := 6) sc__law_take.nd rfl (.inl rfl) (pe_op op_mod (pe_callTy call_int1 (by rfl) T.n_int (by decide +kernel) (pa_cons (pe_op op_mul (pe_op op_mod (pe_callTy call_int1 (by rfl) T.n_int (by decide +kernel) (pa_cons (pe_op op_mul (pv 5) (pv 5)) pa_nil)) pe_int) pe_int) pa_nil)) pe_int))
    (pss_cons (ps_if (pt_cmpR op_gt (pv 1) pe_int (nomark _)) (pss_one (ps_ret (pe_op op_mod (pe_callTy call_int1 (by rfl) T.n_int (by decide +kernel) (pa_cons (pe_op op_add (pe_op op_mul (pv 6) pe_int) (pv 5)) pa_nil)) (pv 1)))) pss_nil)
    (pss_one (ps_ret (pe_op op_mod (pe_callTy call_int1 (by rfl) T.n_int (by decide +kernel) (pa_cons (pe_op op_fdiv (pv 6) pe_int) pa_nil)) (pv 1)))))))), ?_⟩
  refine ⟨fun σ H' => ∃ y2 y3, σ = [some (.ref B.b), some (.int n), y2, y3, none, none, none] ∧ Gr K B G H G H', ?_, fun σ H' hm => ?_⟩
  · obtain ⟨a, b, c, ns, hb, hL, p1, p2, p3, p4, p5, p6⟩ := j.bag
    have sB : SqL K H B.b [.int a, .int b, .int c, .ref B.L] := SqL.of hb
    refine ⟨.ref B.b, rfl, B.b, _, 0, .int a, rfl, rfl, sB, atI_nat (j := 0) rfl, rfl, _, rfl, ite2 (fun _ => ?_) (fun _ => ⟨none, none, rfl, Gr.refl j⟩)⟩
    have hLH : SqL K H B.L (ns.map V.int) := ex_l j.ex hL
    refine ⟨fun σ H' => ∃ cell : Int, 0 ≤ cell ∧ σ = [some (.ref B.b), some (.int n), some (.int cell), none, none, none, none] ∧ H = H', ?_, fun σ H' hm => ?_⟩
    · refine ⟨.ref B.b, rfl, B.b, _, 2, .int c, rfl, rfl, sB, atI_nat (j := 2) rfl, .ref B.b, rfl, B.b, _, 3, .ref B.L, rfl, rfl, sB, atI_nat (j := 3) rfl, B.L, _, rfl, .inl hLH, c, _, rfl, rfl, _, rfl, ite2 (fun e => ?_) (fun _ => ⟨0, Int.le_refl 0, rfl, rfl⟩)⟩
      have hc : c < (ns.length : Int) := by
        have := of_decide_eq_true e
        rw [List.length_map] at this
        exact this
      have hi : c.toNat < ns.length := by omega
      have g1 : atI (ns.map V.int) c = some (.int ns[c.toNat]) := atI_q p4 (by rw [List.getElem?_map, List.getElem?_eq_getElem hi]; rfl)
      exact ⟨.ref B.b, rfl, B.b, _, 3, .ref B.L, rfl, rfl, sB, atI_nat (j := 3) rfl, .ref B.b, rfl, B.b, _, 2, .int c, rfl, rfl, sB, atI_nat (j := 2) rfl, B.L, _, c, _, rfl, rfl, hLH, g1, _, p5 _ (List.getElem_mem hi), rfl, rfl⟩
    · obtain ⟨cell, c0, rfl, rfl⟩ := hm
      -- bag[2] += 1
      refine ⟨.ref B.b, rfl, B.b, _, 2, .int c, rfl, rfl, sB, rfl, c, 1, rfl, rfl, B.b, _, 2, 2, rfl, rfl, hb, rfl, ?_⟩
      have g1 : Gr K B G H G (upd H B.b (.lst [.int a, .int b, .int (c + 1), .ref B.L])) := bag_set (Gr.refl j) hL p1 p2 p3 (Int.add_nonneg p4 (by decide)) p5 p6
      -- if cell >= ..: bag[0] = cell
      refine ⟨fun σ H' => ∃ a' : Int, 0 ≤ a' ∧ σ = [some (.ref B.b), some (.int n), some (.int cell), none, none, none, none] ∧ H' B.b = some (.lst [.int a', .int b, .int (c + 1), .ref B.L]) ∧ Gr K B G H G H', ?_, fun σ H' hm => ?_⟩
      · refine ⟨.int cell, rfl, cell, _, rfl, rfl, _, rfl, ite2 (fun _ => ?_) (fun _ => ⟨a, p1, rfl, upd_same, g1⟩)⟩
        refine ⟨.int cell, rfl, .ref B.b, rfl, B.b, _, 0, 0, rfl, rfl, upd_same, rfl, cell, c0, rfl, ?_, ?_⟩
        · rw [upd_same]; rfl
        · exact bag_set g1 hL c0 p2 p3 (Int.add_nonneg p4 (by decide)) p5 p6
      · obtain ⟨a', a0, rfl, hb', g2⟩ := hm
        have sB' : SqL K H' B.b [.int a', .int b, .int (c + 1), .ref B.L] := SqL.of hb'
        refine ⟨.ref B.b, rfl, B.b, _, 1, .int b, rfl, rfl, sB', atI_nat (j := 1) rfl, b, 48271, rfl, rfl, .inr ⟨by decide, by decide⟩, .int cell, rfl, .inl ⟨cell, rfl, cell, 2147483647, rfl, rfl, (by decide : (0 : Int) < 2147483647), _, _, rfl, rfl, ?_⟩⟩
        refine ⟨.ref B.b, rfl, B.b, _, 2, .int (c + 1), rfl, rfl, sB', atI_nat (j := 2) rfl, 7919, c + 1, rfl, rfl, .inl ⟨by decide, by decide⟩, _, _, rfl, rfl, ?_⟩
        refine ⟨_, rfl, .inl ⟨_, rfl, _, 2147483647, rfl, rfl, (by decide : (0 : Int) < 2147483647), .ref B.b, rfl, B.b, _, 1, 1, rfl, rfl, hb', rfl, some (.int cell), _, rfl, ?_⟩⟩
        exact bag_set g2 hL a0 (Int.emod_nonneg _ (by decide)) (Int.emod_lt_of_pos _ (by decide)) (Int.add_nonneg p4 (by decide)) p5 p6
  · obtain ⟨y2, y3, rfl, g⟩ := hm
    obtain ⟨a, b, c, ns, hb, hL, p1, p2, p3, p4, p5, p6⟩ := g.j.bag
    have sB : SqL K H' B.b [.int a, .int b, .int c, .ref B.L] := SqL.of hb
    refine ⟨.ref B.b, rfl, B.b, _, 0, .int a, rfl, rfl, sB, atI_nat (j := 0) rfl, a, 0, rfl, rfl, _, rfl, ite2 (fun _ => ?_) (fun _ => ?_)⟩
    · refine ⟨.ref B.b, rfl, B.b, _, 0, .int a, rfl, rfl, sB, atI_nat (j := 0) rfl, .inl ⟨a, rfl, .int n, rfl, a, n, rfl, rfl, n0, ?_⟩⟩
      refine ⟨.ref B.b, rfl, B.b, _, 0, .int a, rfl, rfl, sB, atI_nat (j := 0) rfl, .int n, rfl, a, n, rfl, rfl, ⟨n0, n1⟩, .ref B.b, rfl, B.b, _, 0, 0, rfl, rfl, hb, rfl, .int (a % n), rfl, ?_⟩
      refine kv _ _ (Int.emod_nonneg _ (by omega)) (Int.emod_lt_of_pos _ n0) ?_
      exact bag_set g hL (Int.ediv_nonneg p1 (by omega)) p2 p3 p4 p5 p6
    · refine ⟨.ref B.b, rfl, B.b, _, 1, .int b, rfl, rfl, sB, atI_nat (j := 1) rfl, b, 1, rfl, rfl, b + 1, 39373, rfl, rfl, .inr ⟨by decide, by decide⟩, .inl ⟨_, rfl, _, 1000000007, rfl, rfl, (by decide : (0 : Int) < 1000000007), ?_⟩⟩
      have q1 : 0 ≤ (b + 1) * 39373 % 1000000007 := Int.emod_nonneg _ (by decide)
      have q2 : (b + 1) * 39373 % 1000000007 < 1000000007 := Int.emod_lt_of_pos _ (by decide)
      have q3 : -(2 ^ 64) < (b + 1) * 39373 % 1000000007 := by omega
      have q4 : (b + 1) * 39373 % 1000000007 < 2 ^ 64 := by omega
      refine ⟨_, rfl, _, rfl, _, _, rfl, rfl, .inl ⟨q3, q4⟩, .inl ⟨_, rfl, _, 998244353, rfl, rfl, (by decide : (0 : Int) < 998244353), _, 30011, rfl, rfl, .inr ⟨by decide, by decide⟩, .inl ⟨_, rfl, _, 998244353, rfl, rfl, (by decide : (0 : Int) < 998244353), ?_⟩⟩⟩
      refine ⟨.int n, rfl, n, 1000000, rfl, rfl, _, rfl, ite2 (fun _ => ?_) (fun _ => ?_)⟩
      · refine ⟨_, rfl, _, 1000000007, rfl, rfl, .inr ⟨by decide, by decide⟩, _, rfl, _, _, rfl, rfl, .inl ⟨_, rfl, .int n, rfl, _, n, rfl, rfl, n0, ?_⟩⟩
        exact kv _ _ (Int.emod_nonneg _ (by omega)) (Int.emod_lt_of_pos _ n0) g
      · refine ⟨_, rfl, _, 7, rfl, rfl, ⟨by decide, by decide⟩, .inl ⟨_, rfl, .int n, rfl, _, n, rfl, rfl, n0, ?_⟩⟩
        exact kv _ _ (Int.emod_nonneg _ (by omega)) (Int.emod_lt_of_pos _ n0) g
def t__law_pick : DTS := (dRet (dOp oIx (dVar 1) (dCall S__law_take (dCons (dVar 0) (dCons (dCall cLen (dCons (dVar 1) dNil)) dNil)))))
def S__law_pick : FD := fun ds Q => ds.length = 2 ∧ t__law_pick { nx := fun _ => Q .non, rt := Q } (startD 2 ds)
theorem len__law_pick : ∀ ds Q, S__law_pick ds Q → ds.length = 2 := fun _ _ h => h.1
theorem vc__law_pick : ∀ ds Q, S__law_pick ds Q → t__law_pick { nx := fun _ => Q .non, rt := Q } (startD 2 ds) := fun _ _ h => h.2
theorem ok__law_pick {P : Program} {w : World} {K : PySem.W.Frag} {mg : Str → Option Value} {base : Heap} {B : Bx} (T : Top K mg B.ct) : FnOk P w K mg base CX0 2 T.f__law_pick.f T.f__law_pick.fd ["_law_bag_here", "_law_things"] (spD K B S__law_pick) := by
  refine fn_d (k := 1) (t := t__law_pick) T.f__law_pick.fn sc__law_pick len__law_pick (fun cdv A outer s H E hr => ?_) vc__law_pick
  refine psd_one ?_
  refine (psd_ret (pd_ix ix_d (pd_var 1) (pd_callD T.f__law_take (ok__law_take T) hr (by decide) (by rfl) (pad_cons (pd_var 0) (pad_cons (pd_callB call_len_d (by rfl) T.n_len (by decide +kernel) (pad_cons (pd_var 1) pad_nil)) pad_nil)))))
def t__law_piece : DTS := (dRet (dTup (dCons (dCall S__law_take (dCons (dVar 0) (dCons (dVar 1) dNil))) (dCons (dCall S__law_take (dCons (dVar 0) (dCons (dVar 2) dNil))) (dCons (dOp oEq (dCall S__law_take (dCons (dVar 0) (dCons (dC (.int 2)) dNil))) (dC (.int 0))) (dCons (dOp oGt (dCall S__law_take (dCons (dVar 0) (dCons (dC (.int 3)) dNil))) (dC (.int 0))) dNil))))))
def S__law_piece : FD := fun ds Q => ds.length = 3 ∧ t__law_piece { nx := fun _ => Q .non, rt := Q } (startD 3 ds)
theorem len__law_piece : ∀ ds Q, S__law_piece ds Q → ds.length = 3 := fun _ _ h => h.1
theorem vc__law_piece : ∀ ds Q, S__law_piece ds Q → t__law_piece { nx := fun _ => Q .non, rt := Q } (startD 3 ds) := fun _ _ h => h.2
theorem ok__law_piece {P : Program} {w : World} {K : PySem.W.Frag} {mg : Str → Option Value} {base : Heap} {B : Bx} (T : Top K mg B.ct) : FnOk P w K mg base CX0 2 T.f__law_piece.f T.f__law_piece.fd ["_law_bag_here", "_law_n", "_law_m"] (spD K B S__law_piece) := by
  refine fn_d (k := 1) (t := t__law_piece) T.f__law_piece.fn sc__law_piece len__law_piece (fun cdv A outer s H E hr => ?_) vc__law_piece
  refine psd_one ?_
  refine (psd_ret (pd_tup (pad_cons (pd_callD T.f__law_take (ok__law_take T) hr (by decide) (by rfl) (pad_cons (pd_var 0) (pad_cons (pd_var 1) pad_nil))) (pad_cons (pd_callD T.f__law_take (ok__law_take T) hr (by decide) (by rfl) (pad_cons (pd_var 0) (pad_cons (pd_var 2) pad_nil))) (pad_cons (pd_cmp (op_eq_d hr.units) (pd_callD T.f__law_take (ok__law_take T) hr (by decide) (by rfl) (pad_cons (pd_var 0) (pad_cons pd_int pad_nil))) pd_int (by rfl)) (pad_cons (pd_cmp op_gt_d (pd_callD T.f__law_take (ok__law_take T) hr (by decide) (by rfl) (pad_cons (pd_var 0) (pad_cons pd_int pad_nil))) pd_int (by rfl)) pad_nil))))))
def b__law_drawn_pieces_1 : DTS := (dSeq (dSet 6 (dCall S__law_piece (dCons (dVar 0) (dCons (dVar 3) (dCons (dVar 4) dNil)))))
  (dSeq (dIfS (tBor 2 (tAn (tBl (dOp oNe (dVar 2) (dF (fLst dNil)))) (tBl (dOp oEq (dCall S__law_take (dCons (dVar 0) (dCons (dC (.int 3)) dNil))) (dC (.int 0)))))) (dSet 6 (dBorT 2 (dCall S__law_contrary (dCons (dCall S__law_pick (dCons (dVar 0) (dCons (dSl (dVar 2) (aP (dUn oNeg (dC (.int 4)))) noP) dNil))) dNil)))) dNext)
  (dAppR (rVar 2) (dVar 6))))
def t__law_drawn_pieces : DTS := (dSeq (dPar3 2 3 4 (oCons (oF (fLst dNil)) (oCons (oD (dOp oAdd (dC (.int 1)) (dCall S__law_take (dCons (dVar 0) (dCons (dC (.int 3)) dNil))))) (oCons (oD (dOp oAdd (dC (.int 1)) (dCall S__law_take (dCons (dVar 0) (dCons (dC (.int 3)) dNil))))) oNil))))
  (dSeq (dFor (iR1 (dCons (dCall S__law_take (dCons (dVar 0) (dCons (dOp oAdd (dVar 1) (dC (.int 1))) dNil))) dNil)) (gN 5) b__law_drawn_pieces_1)
  (dFrz 2 (dRet (dVar 2)))))
def S__law_drawn_pieces : FD := fun ds Q => ds.length = 2 ∧ t__law_drawn_pieces { nx := fun _ => Q .non, rt := Q } (startD 7 ds)
theorem len__law_drawn_pieces : ∀ ds Q, S__law_drawn_pieces ds Q → ds.length = 2 := fun _ _ h => h.1
theorem vc__law_drawn_pieces : ∀ ds Q, S__law_drawn_pieces ds Q → t__law_drawn_pieces { nx := fun _ => Q .non, rt := Q } (startD 7 ds) := fun _ _ h => h.2
theorem ok__law_drawn_pieces {P : Program} {w : World} {K : PySem.W.Frag} {mg : Str → Option Value} {base : Heap} {B : Bx} (T : Top K mg B.ct) : FnOk P w K mg base CX0 3 T.f__law_drawn_pieces.f T.f__law_drawn_pieces.fd ["_law_bag_here", "_law_many"] (spD K B S__law_drawn_pieces) := by
  refine fn_d (k := 2) (t := t__law_drawn_pieces) T.f__law_drawn_pieces.fn sc__law_drawn_pieces len__law_drawn_pieces (fun cdv A outer s H E hr => ?_) vc__law_drawn_pieces
  refine psd_cons ?_ ?_
  · refine (psd_par3 (i := 2) (j := 3) (l := 4) rfl sc__law_drawn_pieces.nd rfl rfl rfl (by decide) (by decide) (by decide) rfl rfl rfl (pao_cons (po_f (pf_lst pad_nil)) (pao_cons (po_d (pd_bin op_add_d pd_int (pd_callD T.f__law_take (ok__law_take T) hr (by decide) (by rfl) (pad_cons (pd_var 0) (pad_cons pd_int pad_nil))))) (pao_cons (po_d (pd_bin op_add_d pd_int (pd_callD T.f__law_take (ok__law_take T) hr (by decide) (by rfl) (pad_cons (pd_var 0) (pad_cons pd_int pad_nil))))) pao_nil))) (by rfl))
  refine psd_cons ?_ ?_
  · refine psd_for PassesOwn.never rfl (pid_r1 (by rfl) T.n_range ?h2) (pgd_name (i := 5) sc__law_drawn_pieces.nd rfl (by first | exact .inl rfl | exact .inr rfl)) ?_
    case h2 => exact (pad_cons (pd_callD T.f__law_take (ok__law_take T) hr (by decide) (by rfl) (pad_cons (pd_var 0) (pad_cons (pd_bin op_add_d (pd_var 1) pd_int) pad_nil))) pad_nil)
    refine psd_cons ?_ ?_
    · refine (psd_set (i := 6) sc__law_drawn_pieces.nd rfl (by first | exact .inl rfl | exact .inr rfl) (pd_callD T.f__law_piece (ok__law_piece T) hr (by decide) (by rfl) (pad_cons (pd_var 0) (pad_cons (pd_var 3) (pad_cons (pd_var 4) pad_nil)))))
    refine psd_cons ?_ ?_
    · refine psd_if (ptd_bor 2 (pwd_and (ptd_cmp (op_ne_d hr.units) (pd_var 2) (pd_f (pf_lst pad_nil)) (by rfl)) (pwd_and1 (ptd_cmp (op_eq_d hr.units) (pd_callD T.f__law_take (ok__law_take T) hr (by decide) (by rfl) (pad_cons (pd_var 0) (pad_cons pd_int pad_nil))) pd_int (by rfl)))).pt) ?_ ?_
      · refine psd_one ?_
        refine (psd_set (i := 6) sc__law_drawn_pieces.nd rfl (by first | exact .inl rfl | exact .inr rfl) (pd_borT 2 (pd_callD T.f__law_contrary (ok__law_contrary T) hr (by decide) (by rfl) (pad_cons (pd_callD T.f__law_pick (ok__law_pick T) hr (by decide) (by rfl) (pad_cons (pd_var 0) (pad_cons (pd_slice (pd_var 2) (pod_some (pd_un un_neg_d pd_int)) pod_none) pad_nil))) pad_nil))))
      · exact psd_nil
    refine psd_one ?_
    refine (psd_appR (pr_var (pv 2)) (pd_var 6))
  refine psds_frz 2 ?_
  refine psd_one ?_
  refine (psd_ret (pd_var 2))
def t__law_handed : DTS := (dRetE (oIxO (oLst (oCons (oF (fList (dCons (dVar 1) dNil))) (oCons (oD (dCall cTuple (dCons (dVar 1) dNil))) oNil))) (dCall S__law_take (dCons (dVar 0) (dCons (dC (.int 2)) dNil)))))
def S__law_handed : FO := fun ds Q => ds.length = 2 ∧ t__law_handed { nx := fun _ => Q (.sh .non), rt := fun d => Q (.sh d), ro := Q } (startD 2 ds)
theorem len__law_handed : ∀ ds Q, S__law_handed ds Q → ds.length = 2 := fun _ _ h => h.1
theorem vc__law_handed : ∀ ds Q, S__law_handed ds Q → t__law_handed { nx := fun _ => Q (.sh .non), rt := fun d => Q (.sh d), ro := Q } (startD 2 ds) := fun _ _ h => h.2
theorem ok__law_handed {P : Program} {w : World} {K : PySem.W.Frag} {mg : Str → Option Value} {base : Heap} {B : Bx} (T : Top K mg B.ct) : FnOk P w K mg base CX0 2 T.f__law_handed.f T.f__law_handed.fd ["_law_bag_here", "_law_some"] (spO K B S__law_handed) := by
  refine fn_o (k := 1) (t := t__law_handed) T.f__law_handed.fn sc__law_handed len__law_handed (fun cdv A outer s H E hr => ?_) vc__law_handed
  refine psd_one ?_
  refine (psd_retE (po_ixO (po_lst (pao_cons (po_f (pf_list (by rfl) T.n_list (pad_cons (pd_var 1) pad_nil))) (pao_cons (po_d (pd_callTy call_tuple_d (by rfl) T.n_tuple (by decide +kernel) (pad_cons (pd_var 1) pad_nil))) pao_nil))) (pd_callD T.f__law_take (ok__law_take T) hr (by decide) (by rfl) (pad_cons (pd_var 0) (pad_cons pd_int pad_nil)))))
def t__law_touch : DTS := (dRet (dOr (dOp oEq (dOp oIx (dVar 0) (dC (.int 0))) (dOp oIx (dVar 1) (dC (.int 0)))) (dOp oEq (dOp oIx (dVar 0) (dC (.int 1))) (dOp oIx (dVar 1) (dC (.int 1))))))
def S__law_touch : FD := fun ds Q => ds.length = 2 ∧ t__law_touch { nx := fun _ => Q .non, rt := Q } (startD 2 ds)
theorem len__law_touch : ∀ ds Q, S__law_touch ds Q → ds.length = 2 := fun _ _ h => h.1
theorem vc__law_touch : ∀ ds Q, S__law_touch ds Q → t__law_touch { nx := fun _ => Q .non, rt := Q } (startD 2 ds) := fun _ _ h => h.2
theorem ok__law_touch {P : Program} {w : World} {K : PySem.W.Frag} {mg : Str → Option Value} {base : Heap} {B : Bx} (T : Top K mg B.ct) : FnOk P w K mg base CX0 1 T.f__law_touch.f T.f__law_touch.fd ["_law_one", "_law_other"] (spD K B S__law_touch) := by
  refine fn_d (k := 0) (t := t__law_touch) T.f__law_touch.fn sc__law_touch len__law_touch (fun cdv A outer s H E hr => ?_) vc__law_touch
  refine psd_one ?_
  refine (psd_ret (pd_or (pd_cmp (op_eq_d hr.units) (pd_ix ix_d (pd_var 0) pd_int) (pd_ix ix_d (pd_var 1) pd_int) (by rfl)) (pd_1 (pd_cmp (op_eq_d hr.units) (pd_ix ix_d (pd_var 0) pd_int) (pd_ix ix_d (pd_var 1) pd_int) (by rfl)))))
def b__law_couple_1 : DTS := (dSeq (dSet 3 (dF (fLc (iSeq (dSl (dVar 0) (aP (dOp oAdd (dVar 2) (dC (.int 1)))) (aP (dVar 1)))) (gN 4) (tBl (dCall S__law_touch (dCons (dVar 4) (dCons (dOp oIx (dVar 0) (dVar 1)) dNil)))) (dVar 4) [4])))
  (dIfS (tAn (tBl (dOp oEq (dVar 3) (dF (fLst dNil)))) (tBl (dOp oEq (dOp oIx (dVar 0) (dVar 2)) (dCall S__law_contrary (dCons (dOp oIx (dVar 0) (dVar 1)) dNil))))) (dRet (dTup (dCons (dVar 2) (dCons (dVar 1) dNil)))) dNext))
def b__law_couple_2 : DTS := (dFor (iR1 (dCons (dVar 1) dNil)) (gN 2) b__law_couple_1)
def t__law_couple : DTS := (dSeq (dFor (iR1 (dCons (dCall cLen (dCons (dVar 0) dNil)) dNil)) (gN 1) b__law_couple_2)
  (dRet (dC .non)))
def S__law_couple : FD := fun ds Q => ds.length = 1 ∧ t__law_couple { nx := fun _ => Q .non, rt := Q } (startD 5 ds)
theorem len__law_couple : ∀ ds Q, S__law_couple ds Q → ds.length = 1 := fun _ _ h => h.1
theorem vc__law_couple : ∀ ds Q, S__law_couple ds Q → t__law_couple { nx := fun _ => Q .non, rt := Q } (startD 5 ds) := fun _ _ h => h.2
theorem ok__law_couple {P : Program} {w : World} {K : PySem.W.Frag} {mg : Str → Option Value} {base : Heap} {B : Bx} (T : Top K mg B.ct) : FnOk P w K mg base CX0 2 T.f__law_couple.f T.f__law_couple.fd ["_law_pieces"] (spD K B S__law_couple) := by
  refine fn_d (k := 1) (t := t__law_couple) T.f__law_couple.fn sc__law_couple len__law_couple (fun cdv A outer s H E hr => ?_) vc__law_couple
  refine psd_cons ?_ ?_
  · refine psd_for PassesOwn.never rfl (pid_r1 (by rfl) T.n_range ?h4) (pgd_name (i := 1) sc__law_couple.nd rfl (by first | exact .inl rfl | exact .inr rfl)) ?_
    case h4 => exact (pad_cons (pd_callB call_len_d (by rfl) T.n_len (by decide +kernel) (pad_cons (pd_var 0) pad_nil)) pad_nil)
    refine psd_one ?_
    refine psd_for PassesOwn.never rfl (pid_r1 (by rfl) T.n_range (pad_cons (pd_var 1) pad_nil)) (pgd_name (i := 2) sc__law_couple.nd rfl (by first | exact .inl rfl | exact .inr rfl)) ?_
    refine psd_cons ?_ ?_
    · refine (psd_setLc (i := 3) rfl sc__law_couple.nd rfl rfl (sw_true rfl rfl rfl (by decide +kernel)) (pid_seq ?h5) (blkOk_by (own := [("_law_one", 4)]) (by rfl)) (by decide) (fun _ _ _ _ _ => (pgd_name (i := 4) sc__law_couple.nd rfl (by first | exact .inl rfl | exact .inr rfl))) (fun _ _ _ _ _ => ?h6) (fun _ _ _ _ _ => (pd_var 4)))
      case h5 => exact (pd_slice (pd_var 0) (pod_some (pd_bin op_add_d (pd_var 2) pd_int)) (pod_some (pd_var 1)))
      case h6 => exact (ptsd_one (ptd_val (pd_callD T.f__law_touch (ok__law_touch T) hr (by decide) (by rfl) (pad_cons (pd_var 4) (pad_cons (pd_ix ix_d (pd_var 0) (pd_var 1)) pad_nil)))))
    refine psd_one ?_
    refine psd_if (pwd_and (ptd_cmp (op_eq_d hr.units) (pd_var 3) (pd_f (pf_lst pad_nil)) (by rfl)) (pwd_and1 (ptd_cmp (op_eq_d hr.units) (pd_ix ix_d (pd_var 0) (pd_var 2)) (pd_callD T.f__law_contrary (ok__law_contrary T) hr (by decide) (by rfl) (pad_cons (pd_ix ix_d (pd_var 0) (pd_var 1)) pad_nil)) (by rfl)))).pt ?_ ?_
    · refine psd_one ?_
      refine (psd_ret (pd_tup (pad_cons (pd_var 2) (pad_cons (pd_var 1) pad_nil))))
    · exact psd_nil
  refine psd_one ?_
  refine (psd_ret pd_non)
def b__law_left_over_1 : DTS := (dSeq (dSet 0 (dF (fLc (iR1 (dCons (dCall cLen (dCons (dVar 0) dNil)) dNil)) (gN 2) (tBl (dOp (oIn true) (dVar 2) (dVar 1))) (dOp oIx (dVar 0) (dVar 2)) [2])))
  (dSet 1 (dCall S__law_couple (dCons (dVar 0) dNil))))
def t__law_left_over : DTS := (dSeq (dAsg (dTup (dCons (dF (fList (dCons (dVar 0) dNil))) (dCons (dCall S__law_couple (dCons (dVar 0) dNil)) dNil))) (gT 2 (gsCons (gN 0) (gsCons (gN 1) gsNil))))
  (dSeq (dWhile (tBl (dOp (oIsN true) (dVar 1) (dC .non))) b__law_left_over_1)
  (dRet (dVar 0))))
def S__law_left_over : FD := fun ds Q => ds.length = 1 ∧ t__law_left_over { nx := fun _ => Q .non, rt := Q } (startD 3 ds)
theorem len__law_left_over : ∀ ds Q, S__law_left_over ds Q → ds.length = 1 := fun _ _ h => h.1
theorem vc__law_left_over : ∀ ds Q, S__law_left_over ds Q → t__law_left_over { nx := fun _ => Q .non, rt := Q } (startD 3 ds) := fun _ _ h => h.2
theorem ok__law_left_over {P : Program} {w : World} {K : PySem.W.Frag} {mg : Str → Option Value} {base : Heap} {B : Bx} (T : Top K mg B.ct) : FnOk P w K mg base CX0 3 T.f__law_left_over.f T.f__law_left_over.fd ["_law_pieces"] (spD K B S__law_left_over) := by
  refine fn_d (k := 2) (t := t__law_left_over) T.f__law_left_over.fn sc__law_left_over len__law_left_over (fun cdv A outer s H E hr => ?_) vc__law_left_over
  refine psd_cons ?_ ?_
  · refine (psd_asg (pd_tup (pad_cons (pd_f (pf_list (by rfl) T.n_list (pad_cons (pd_var 0) pad_nil))) (pad_cons (pd_callD T.f__law_couple (ok__law_couple T) hr (by decide) (by rfl) (pad_cons (pd_var 0) pad_nil)) pad_nil))) (pgd_tup rfl (pgsd_cons (pgd_name (i := 0) sc__law_left_over.nd rfl (by first | exact .inl rfl | exact .inr rfl)) (pgsd_cons (pgd_name (i := 1) sc__law_left_over.nd rfl (by first | exact .inl rfl | exact .inr rfl)) pgsd_nil))))
  refine psd_cons ?_ ?_
  · refine psd_while PassesOwn.never (ptd_cmp op_notN_d (pd_var 1) pd_non (by rfl)) ?_
    refine psd_cons ?_ ?_
    · refine (psd_set (i := 0) sc__law_left_over.nd rfl (by first | exact .inl rfl | exact .inr rfl) (pd_f (pf_lc rfl sc__law_left_over.nd (pid_r1 (by rfl) T.n_range ?h2) (blkOk_by (own := [("_law_k", 2)]) (by rfl)) (by decide) (fun _ _ _ _ _ => (pgd_name (i := 2) sc__law_left_over.nd rfl (by first | exact .inl rfl | exact .inr rfl))) (fun _ _ _ _ _ => (ptsd_one (ptd_cmp op_notIn_d (pd_var 2) (pd_var 1) (by rfl)))) (fun _ _ _ _ _ => (pd_ix ix_d (pd_var 0) (pd_var 2))))))
      case h2 => exact (pad_cons (pd_callB call_len_d (by rfl) T.n_len (by decide +kernel) (pad_cons (pd_var 0) pad_nil)) pad_nil)
    refine psd_one ?_
    refine (psd_set (i := 1) sc__law_left_over.nd rfl (by first | exact .inl rfl | exact .inr rfl) (pd_callD T.f__law_couple (ok__law_couple T) hr (by decide) (by rfl) (pad_cons (pd_var 0) pad_nil)))
  refine psd_one ?_
  refine (psd_ret (pd_var 0))
def b__law_leveled_1 : DTS := (dAppR (rVar 1) (dBor 1 (dCall cMaxL (dCons (dOp oAdd (dF (fLst (dCons (dC (.int 0)) dNil))) (dF (fLc (iR1 (dCons (dVar 2) dNil)) (gN 3) (tBl (dCall S__law_touch (dCons (dOp oIx (dVar 0) (dVar 3)) (dCons (dOp oIx (dVar 0) (dVar 2)) dNil)))) (dOp oAdd (dOp oIx (dVar 1) (dVar 3)) (dC (.int 1))) [3]))) dNil))))
def t__law_leveled : DTS := (dSeq (dSetT 1 (oF (fLst dNil)))
  (dSeq (dFor (iR1 (dCons (dCall cLen (dCons (dVar 0) dNil)) dNil)) (gN 2) b__law_leveled_1)
  (dFrz 1 (dRet (dF (fLc (iSeq (dF (fSortSet (dCons (dVar 1) dNil)))) (gN 4) dYes (dF (fSorted (dCons (dF (fLc (iR1 (dCons (dCall cLen (dCons (dVar 0) dNil)) dNil)) (gN 3) (tBl (dOp oEq (dOp oIx (dVar 1) (dVar 3)) (dVar 4))) (dOp oIx (dVar 0) (dVar 3)) [3])) dNil))) [4]))))))
def S__law_leveled : FD := fun ds Q => ds.length = 1 ∧ t__law_leveled { nx := fun _ => Q .non, rt := Q } (startD 5 ds)
theorem len__law_leveled : ∀ ds Q, S__law_leveled ds Q → ds.length = 1 := fun _ _ h => h.1
theorem vc__law_leveled : ∀ ds Q, S__law_leveled ds Q → t__law_leveled { nx := fun _ => Q .non, rt := Q } (startD 5 ds) := fun _ _ h => h.2
theorem ok__law_leveled {P : Program} {w : World} {K : PySem.W.Frag} {mg : Str → Option Value} {base : Heap} {B : Bx} (T : Top K mg B.ct) : FnOk P w K mg base CX0 2 T.f__law_leveled.f T.f__law_leveled.fd ["_law_pieces"] (spD K B S__law_leveled) := by
  refine fn_d (k := 1) (t := t__law_leveled) T.f__law_leveled.fn sc__law_leveled len__law_leveled (fun cdv A outer s H E hr => ?_) vc__law_leveled
  refine psd_cons ?_ ?_
  · refine (psd_setT (i := 1) sc__law_leveled.nd rfl (by first | exact .inl rfl | exact .inr rfl) (po_f (pf_lst pad_nil)))
  refine psd_cons ?_ ?_
  · refine psd_for PassesOwn.never rfl (pid_r1 (by rfl) T.n_range ?h5) (pgd_name (i := 2) sc__law_leveled.nd rfl (by first | exact .inl rfl | exact .inr rfl)) ?_
    case h5 => exact (pad_cons (pd_callB call_len_d (by rfl) T.n_len (by decide +kernel) (pad_cons (pd_var 0) pad_nil)) pad_nil)
    refine psd_one ?_
    refine (psd_appR (pr_var (pv 1)) (pd_bor 1 (pd_callB (call_maxL_d rfl) (by rfl) T.n_max (by decide +kernel) (pad_cons (pd_bin op_add_d (pd_f (pf_lst (pad_cons pd_int pad_nil))) (pd_f (pf_lc rfl sc__law_leveled.nd (pid_r1 (by rfl) T.n_range (pad_cons (pd_var 2) pad_nil)) (blkOk_by (own := [("_law_k", 3)]) (by rfl)) (by decide) (fun _ _ _ _ _ => (pgd_name (i := 3) sc__law_leveled.nd rfl (by first | exact .inl rfl | exact .inr rfl))) (fun _ _ _ _ _ => ?h6) (fun _ _ _ _ _ => (pd_bin op_add_d (pd_ix ix_d (pd_var 1) (pd_var 3)) pd_int))))) pad_nil))))
    case h6 => exact (ptsd_one (ptd_val (pd_callD T.f__law_touch (ok__law_touch T) hr (by decide) (by rfl) (pad_cons (pd_ix ix_d (pd_var 0) (pd_var 3)) (pad_cons (pd_ix ix_d (pd_var 0) (pd_var 2)) pad_nil)))))
  refine psds_frz 1 ?_
  refine psd_one ?_
  refine (psd_ret (pd_f (pf_lc rfl sc__law_leveled.nd (pid_seq ?h7) (blkOk_by (own := [("_law_one", 4)]) (by rfl)) (by decide) (fun _ _ _ _ _ => (pgd_name (i := 4) sc__law_leveled.nd rfl (by first | exact .inl rfl | exact .inr rfl))) (fun _ _ _ _ _ => ptsd_nil) (fun _ _ _ _ _ => ?h8))))
  case h7 => exact (pd_f (pf_sortSet rfl (by rfl) T.n_sorted (by rfl) T.n_set (pad_cons (pd_var 1) pad_nil)))
  case h8 => exact (pd_f (pf_sorted rfl (room_u70 hr) (by rfl) T.n_sorted (pad_cons (pd_f (pf_lc rfl sc__law_leveled.nd (pid_r1 (by rfl) T.n_range (pad_cons (pd_callB call_len_d (by rfl) T.n_len (by decide +kernel) (pad_cons (pd_var 0) pad_nil)) pad_nil)) (blkOk_by (own := [("_law_k", 3)]) (by rfl)) (by decide) (fun _ _ _ _ _ => (pgd_name (i := 3) sc__law_leveled.nd rfl (by first | exact .inl rfl | exact .inr rfl))) (fun _ _ _ _ _ => (ptsd_one (ptd_cmp (op_eq_d hr.units) (pd_ix ix_d (pd_var 1) (pd_var 3)) (pd_var 4) (by rfl)))) (fun _ _ _ _ _ => (pd_ix ix_d (pd_var 0) (pd_var 3))))) pad_nil)))
def t__law_heaped : DTS := (dRet (dCall cSumLL (dCons (dCall S__law_leveled (dCons (dCall S__law_left_over (dCons (dVar 0) dNil)) dNil)) (dCons (dF (fLst dNil)) dNil))))
def S__law_heaped : FD := fun ds Q => ds.length = 1 ∧ t__law_heaped { nx := fun _ => Q .non, rt := Q } (startD 1 ds)
theorem len__law_heaped : ∀ ds Q, S__law_heaped ds Q → ds.length = 1 := fun _ _ h => h.1
theorem vc__law_heaped : ∀ ds Q, S__law_heaped ds Q → t__law_heaped { nx := fun _ => Q .non, rt := Q } (startD 1 ds) := fun _ _ h => h.2
theorem ok__law_heaped {P : Program} {w : World} {K : PySem.W.Frag} {mg : Str → Option Value} {base : Heap} {B : Bx} (T : Top K mg B.ct) : FnOk P w K mg base CX0 4 T.f__law_heaped.f T.f__law_heaped.fd ["_law_pieces"] (spD K B S__law_heaped) := by
  refine fn_d (k := 3) (t := t__law_heaped) T.f__law_heaped.fn sc__law_heaped len__law_heaped (fun cdv A outer s H E hr => ?_) vc__law_heaped
  refine psd_one ?_
  refine (psd_ret (pd_callB (call_sumLL_d rfl) (by rfl) T.n_sum (by decide +kernel) (pad_cons (pd_callD T.f__law_leveled (ok__law_leveled T) hr (by decide) (by rfl) (pad_cons (pd_callD T.f__law_left_over (ok__law_left_over T) hr (by decide) (by rfl) (pad_cons (pd_var 0) pad_nil)) pad_nil)) (pad_cons (pd_f (pf_lst pad_nil)) pad_nil))))
def t__law_alike : DTS := (dRet (dAn (dOp oEq (dVar 0) (dVar 1)) (dOp oEq (dCall cRepr (dCons (dVar 0) dNil)) (dCall cRepr (dCons (dVar 1) dNil)))))
def S__law_alike : FD := fun ds Q => ds.length = 2 ∧ t__law_alike { nx := fun _ => Q .non, rt := Q } (startD 2 ds)
theorem len__law_alike : ∀ ds Q, S__law_alike ds Q → ds.length = 2 := fun _ _ h => h.1
theorem vc__law_alike : ∀ ds Q, S__law_alike ds Q → t__law_alike { nx := fun _ => Q .non, rt := Q } (startD 2 ds) := fun _ _ h => h.2
theorem ok__law_alike {P : Program} {w : World} {K : PySem.W.Frag} {mg : Str → Option Value} {base : Heap} {B : Bx} (T : Top K mg B.ct) : FnG P w K mg base CX0 1 T.f__law_alike.f T.f__law_alike.fd ["_law_found", "_law_due"] (spD K B S__law_alike) := by
  refine fng_d (k := 0) (t := t__law_alike) T.f__law_alike.fn sc__law_alike len__law_alike (fun cdv A outer s H E hgd hr => ?_) vc__law_alike
  have hgd : (cxOf CX0 P w K mg base ["_law_found", "_law_due"] "_law_alike" (defScope s__law_alike) T.f__law_alike.f cdv A outer s H E).nox.A.guards = some [] := hgd
  have hu70 : (cxOf CX0 P w K mg base ["_law_found", "_law_due"] "_law_alike" (defScope s__law_alike) T.f__law_alike.f cdv A outer s H E).nox.A.units + 70 < cLine := Nat.lt_of_le_of_lt (Nat.add_le_add_left (by decide : 70 ≤ 16 * 0 + 200) _) hr.un
  refine psd_one ?_
  refine (psd_ret (pd_and (pd_cmp (op_eq_d hr.units) (pd_var 0) (pd_var 1) (by rfl)) (pd_1 (pd_cmp (op_eq_d hr.units) (pd_callB (call_repr_d hgd hu70) (by rfl) T.n_repr (by decide +kernel) (pad_cons (pd_var 0) pad_nil)) (pd_callB (call_repr_d hgd hu70) (by rfl) T.n_repr (by decide +kernel) (pad_cons (pd_var 1) pad_nil)) (by rfl)))))
def _law_ribbons_right_at_7 : DTS := (dAppR (rVar 6) (dC .non))
def _law_ribbons_right_at_5 : DTS := (dSeq (dIfS (tBor 6 (tNt (tBl (dCall S__law_alike (dCons (dVar 6) (dCons (dF (fLc (iSeq (dVar 1)) (gN 7) (tBl (dOp oEq (dOp oIx (dVar 7) (dVar 3)) (dVar 4))) (dVar 7) [7])) dNil)))))) (dRet (dC (.bl false))) dNext)
  _law_ribbons_right_at_7)
def b__law_ribbons_right_1 : DTS := (dSeq (dSetT 6 (oMeth 5 S_Heap_pieces_of (dVar 0) (dCons (dTup (dCons (dVar 2) (dCons (dVar 4) dNil))) dNil)))
  _law_ribbons_right_at_5)
def b__law_ribbons_right_2 : DTS := (dFor (iR1 (dCons (dC (.int 2)) dNil)) (gN 5) b__law_ribbons_right_1)
def b__law_ribbons_right_3 : DTS := (dFor (iSeq (dOp oAdd (dF (fSortSet (dCons (dF (fLc (iSeq (dVar 1)) (gN 7) dYes (dOp oIx (dVar 7) (dVar 3)) [7])) dNil))) (dF (fLst (dCons (dC (.int 7)) dNil))))) (gN 4) b__law_ribbons_right_2)
def _law_ribbons_right_at_8 : DTS := (dRet (dC (.bl true)))
def t__law_ribbons_right : DTS := (dSeq (dFor (iSeq (dTup (dCons (dTup (dCons (dC (.str (Str.ofString "sun"))) (dCons (dC (.int 0)) dNil))) (dCons (dTup (dCons (dC (.str (Str.ofString "moon"))) (dCons (dC (.int 1)) dNil))) dNil)))) (gT 2 (gsCons (gN 2) (gsCons (gN 3) gsNil))) b__law_ribbons_right_3)
  _law_ribbons_right_at_8)
def S__law_ribbons_right : FD := fun ds Q => ds.length = 2 ∧ t__law_ribbons_right { nx := fun _ => Q .non, rt := Q } (startD 8 ds)
theorem len__law_ribbons_right : ∀ ds Q, S__law_ribbons_right ds Q → ds.length = 2 := fun _ _ h => h.1
theorem vc__law_ribbons_right : ∀ ds Q, S__law_ribbons_right ds Q → t__law_ribbons_right { nx := fun _ => Q .non, rt := Q } (startD 8 ds) := fun _ _ h => h.2
theorem ok__law_ribbons_right {P : Program} {w : World} {K : PySem.W.Frag} {mg : Str → Option Value} {base : Heap} {B : Bx} (T : Top K mg B.ct) : FnG P w K mg base CX0 4 T.f__law_ribbons_right.f T.f__law_ribbons_right.fd ["_law_heap", "_law_due"] (spD K B S__law_ribbons_right) := by
  refine fng_d (k := 3) (t := t__law_ribbons_right) T.f__law_ribbons_right.fn sc__law_ribbons_right len__law_ribbons_right (fun cdv A outer s H E hgd hr => ?_) vc__law_ribbons_right
  have hgd : (cxOf CX0 P w K mg base ["_law_heap", "_law_due", "_law_side", "_law_at", "_law_number", "_law_again", "_law_found", "_law_piece_here"] "_law_ribbons_right" (defScope s__law_ribbons_right) T.f__law_ribbons_right.f cdv A outer s H E).nox.A.guards = some [] := hgd
  have hu70 : (cxOf CX0 P w K mg base ["_law_heap", "_law_due", "_law_side", "_law_at", "_law_number", "_law_again", "_law_found", "_law_piece_here"] "_law_ribbons_right" (defScope s__law_ribbons_right) T.f__law_ribbons_right.f cdv A outer s H E).nox.A.units + 70 < cLine := Nat.lt_of_le_of_lt (Nat.add_le_add_left (by decide : 70 ≤ 16 * 3 + 200) _) hr.un
  refine psd_cons ?_ ?_
  · refine psd_for PassesOwn.never rfl (pid_seq ?h3) (pgd_tup rfl (pgsd_cons (pgd_name (i := 2) sc__law_ribbons_right.nd rfl (by first | exact .inl rfl | exact .inr rfl)) (pgsd_cons (pgd_name (i := 3) sc__law_ribbons_right.nd rfl (by first | exact .inl rfl | exact .inr rfl)) pgsd_nil))) ?_
    case h3 => exact (pd_tup (pad_cons (pd_tup (pad_cons pd_str (pad_cons pd_int pad_nil))) (pad_cons (pd_tup (pad_cons pd_str (pad_cons pd_int pad_nil))) pad_nil)))
    refine psd_one ?_
    refine psd_for PassesOwn.never rfl (pid_seq ?h4) (pgd_name (i := 4) sc__law_ribbons_right.nd rfl (by first | exact .inl rfl | exact .inr rfl)) ?_
    case h4 => exact (pd_bin op_add_d (pd_f (pf_sortSet rfl (by rfl) T.n_sorted (by rfl) T.n_set (pad_cons (pd_f (pf_lc rfl sc__law_ribbons_right.nd (pid_seq (pd_var 1)) (blkOk_by (own := [("_law_piece_here", 7)]) (by rfl)) (by decide) (fun _ _ _ _ _ => (pgd_name (i := 7) sc__law_ribbons_right.nd rfl (by first | exact .inl rfl | exact .inr rfl))) (fun _ _ _ _ _ => ptsd_nil) (fun _ _ _ _ _ => (pd_ix ix_d (pd_var 7) (pd_var 3))))) pad_nil))) (pd_f (pf_lst (pad_cons pd_int pad_nil))))
    refine psd_one ?_
    refine psd_for PassesOwn.never rfl (pid_r1 (by rfl) T.n_range (pad_cons pd_int pad_nil)) (pgd_name (i := 5) sc__law_ribbons_right.nd rfl (by first | exact .inl rfl | exact .inr rfl)) ?_
    refine psd_cons ?_ ?_
    · refine (psd_setT (i := 6) sc__law_ribbons_right.nd rfl (by first | exact .inl rfl | exact .inr rfl) (po_meth T.c_Heap T.m_Heap_pieces_of (r_Heap_pieces_of T) (hr.mono (by decide)) (pd_var 0) (pad_cons (pd_tup (pad_cons (pd_var 2) (pad_cons (pd_var 4) pad_nil))) pad_nil)))
    refine psd_cons ?_ ?_
    · refine psd_if (ptd_bor 6 (ptd_not (ptd_val (pd_callDG T.f__law_alike (ok__law_alike T) hgd hr (by decide) (by rfl) (pad_cons (pd_var 6) (pad_cons (pd_f (pf_lc rfl sc__law_ribbons_right.nd (pid_seq (pd_var 1)) (blkOk_by (own := [("_law_piece_here", 7)]) (by rfl)) (by decide) (fun _ _ _ _ _ => (pgd_name (i := 7) sc__law_ribbons_right.nd rfl (by first | exact .inl rfl | exact .inr rfl))) (fun _ _ _ _ _ => (ptsd_one (ptd_cmp (op_eq_d hr.units) (pd_ix ix_d (pd_var 7) (pd_var 3)) (pd_var 4) (by rfl)))) (fun _ _ _ _ _ => (pd_var 7)))) pad_nil)))))) ?_ ?_
      · refine psd_one ?_
        refine (psd_ret pd_bl)
      · exact psd_nil
    refine psd_one ?_
    refine (psd_appR (pr_var (pv 6)) pd_non)
  refine psd_one ?_
  refine (psd_ret pd_bl)
def _law_right_at_7 : DTS := (dKick (kCat2 (rVar 5) (rIx (rVar 5) (dC (.int 1)))) 6)
def _law_right_at_5 : DTS := (dSeq (dIfS (tBor 5 (tOrr (tNt (tBl (dCall S__law_alike (dCons (dVar 5) (dCons (dF (fLst (dCons (dVar 1) (dCons (dCall S__law_leveled (dCons (dVar 1) dNil)) (dCons (dF (fSorted (dCons (dVar 2) dNil))) (dCons (dF (fSorted (dCons (dVar 3) dNil))) dNil)))))) dNil))))) (tBl (dOp oNe (dCall (cLenO 5 S_Heap___len__) (dCons (dVar 0) dNil)) (dCall cLen (dCons (dVar 1) dNil)))))) (dRet (dC (.bl false))) dNext)
  _law_right_at_7)
def b__law_right_1 : DTS := (dSeq (dSetT 5 (oLst (oCons (oF (fListO 5 0 S_Heap___len__ (dVar 0))) (oCons (oMeth 5 S_Heap_levels (dVar 0) dNil) (oCons (oMeth 5 S_Heap_firsts (dVar 0) dNil) (oCons (oMeth 5 S_Heap_lasts (dVar 0) dNil) oNil))))))
  _law_right_at_5)
def _law_right_at_11 : DTS := (dRet (dOp oEq (dF (fLc (iSeq (dVar 1)) (gN 9) (tBl (dOp oNe (dOp (oInO false 5 S_Heap___contains__) (dCall S__law_contrary (dCons (dVar 9) dNil)) (dVar 0)) (dOp (oInP false) (dCall S__law_contrary (dCons (dVar 9) dNil)) (dVar 1)))) (dVar 9) [9])) (dF (fLst dNil))))
def _law_right_at_9 : DTS := (dSeq (dIfS (tOrr (tNt (tBl (dCall S__law_ribbons_right (dCons (dVar 0) (dCons (dVar 1) dNil))))) (tBl (dOp oNe (dF (fLc (iOwn 5 0 (dVar 0)) (gN 9) (tBl (dOp (oInO true 5 S_Heap___contains__) (dVar 9) (dVar 0))) (dVar 9) [9])) (dF (fLst dNil))))) (dRet (dC (.bl false))) dNext)
  _law_right_at_11)
def _law_right_at_3 : DTS := (dSeq (dFor (iR1 (dCons (dC (.int 3)) dNil)) (gN 4) b__law_right_1)
  _law_right_at_9)
def _law_right_at_2 : DTS := (dSeq (dSet 3 (dF (fLc (iR1 (dCons (dCall cLen (dCons (dVar 1) dNil)) dNil)) (gN 7) (tBl (dOp oEq (dF (fLc (iSeq (dSl (dVar 1) (aP (dOp oAdd (dVar 7) (dC (.int 1)))) noP)) (gN 8) (tBl (dCall S__law_touch (dCons (dVar 8) (dCons (dOp oIx (dVar 1) (dVar 7)) dNil)))) (dC (.int 1)) [8])) (dF (fLst dNil)))) (dOp oIx (dVar 1) (dVar 7)) [7])))
  _law_right_at_3)
def t__law_right : DTS := (dSeq (dSet 2 (dF (fLc (iR1 (dCons (dCall cLen (dCons (dVar 1) dNil)) dNil)) (gN 7) (tBl (dOp oEq (dF (fLc (iSeq (dSl (dVar 1) noP (aP (dVar 7)))) (gN 8) (tBl (dCall S__law_touch (dCons (dVar 8) (dCons (dOp oIx (dVar 1) (dVar 7)) dNil)))) (dC (.int 1)) [8])) (dF (fLst dNil)))) (dOp oIx (dVar 1) (dVar 7)) [7])))
  _law_right_at_2)
def S__law_right : FD := fun ds Q => ds.length = 2 ∧ t__law_right { nx := fun _ => Q .non, rt := Q } (startD 10 ds)
theorem len__law_right : ∀ ds Q, S__law_right ds Q → ds.length = 2 := fun _ _ h => h.1
theorem vc__law_right : ∀ ds Q, S__law_right ds Q → t__law_right { nx := fun _ => Q .non, rt := Q } (startD 10 ds) := fun _ _ h => h.2
theorem ok__law_right {P : Program} {w : World} {K : PySem.W.Frag} {mg : Str → Option Value} {base : Heap} {B : Bx} (T : Top K mg B.ct) : FnG P w K mg base CX0 6 T.f__law_right.f T.f__law_right.fd ["_law_heap", "_law_due"] (spD K B S__law_right) := by
  refine fng_d (k := 5) (t := t__law_right) T.f__law_right.fn sc__law_right len__law_right (fun cdv A outer s H E hgd hr => ?_) vc__law_right
  have hgd : (cxOf CX0 P w K mg base ["_law_heap", "_law_due", "_law_firsts", "_law_lasts", "_law_again", "_law_found", "_law_some", "_law_k", "_law_one", "_law_piece_here"] "_law_right" (defScope s__law_right) T.f__law_right.f cdv A outer s H E).nox.A.guards = some [] := hgd
  have hu70 : (cxOf CX0 P w K mg base ["_law_heap", "_law_due", "_law_firsts", "_law_lasts", "_law_again", "_law_found", "_law_some", "_law_k", "_law_one", "_law_piece_here"] "_law_right" (defScope s__law_right) T.f__law_right.f cdv A outer s H E).nox.A.units + 70 < cLine := Nat.lt_of_le_of_lt (Nat.add_le_add_left (by decide : 70 ≤ 16 * 5 + 200) _) hr.un
  refine pssd_exx ?_
  have hgd : (exx (cxOf CX0 P w K mg base ["_law_heap", "_law_due", "_law_firsts", "_law_lasts", "_law_again", "_law_found", "_law_some", "_law_k", "_law_one", "_law_piece_here"] "_law_right" (defScope s__law_right) T.f__law_right.f cdv A outer s H E).nox).A.guards = some [] := hgd
  have hu70 : (exx (cxOf CX0 P w K mg base ["_law_heap", "_law_due", "_law_firsts", "_law_lasts", "_law_again", "_law_found", "_law_some", "_law_k", "_law_one", "_law_piece_here"] "_law_right" (defScope s__law_right) T.f__law_right.f cdv A outer s H E).nox).A.units + 70 < cLine := hu70
  refine psd_cons ?_ ?_
  · refine (psd_setLc (i := 2) rfl sc__law_right.nd rfl rfl (sw_true rfl rfl rfl (by decide +kernel)) (pid_r1 (by rfl) T.n_range ?h7) (blkOk_by (own := [("_law_k", 7)]) (by rfl)) (by decide) (fun _ _ _ _ _ => (pgd_name (i := 7) sc__law_right.nd rfl (by first | exact .inl rfl | exact .inr rfl))) (fun _ _ _ _ _ => ?h8) (fun _ _ _ _ _ => (pd_ix ix_d (pd_var 1) (pd_var 7))))
    case h7 => exact (pad_cons (pd_callB call_len_d (by rfl) T.n_len (by decide +kernel) (pad_cons (pd_var 1) pad_nil)) pad_nil)
    case h8 => exact (ptsd_one (ptd_cmp (op_eq_d hr.units) (pd_f (pf_lc rfl sc__law_right.nd (pid_seq (pd_slice (pd_var 1) pod_none (pod_some (pd_var 7)))) (blkOk_by (own := [("_law_one", 8)]) (by rfl)) (by decide) (fun _ _ _ _ _ => (pgd_name (i := 8) sc__law_right.nd rfl (by first | exact .inl rfl | exact .inr rfl))) (fun _ _ _ _ _ => (ptsd_one (ptd_val (pd_callD T.f__law_touch (ok__law_touch T) hr (by decide) (by rfl) (pad_cons (pd_var 8) (pad_cons (pd_ix ix_d (pd_var 1) (pd_var 7)) pad_nil)))))) (fun _ _ _ _ _ => pd_int))) (pd_f (pf_lst pad_nil)) (by rfl)))
  refine psd_cons ?_ ?_
  · refine (psd_setLc (i := 3) rfl sc__law_right.nd rfl rfl (sw_true rfl rfl rfl (by decide +kernel)) (pid_r1 (by rfl) T.n_range ?h9) (blkOk_by (own := [("_law_k", 7)]) (by rfl)) (by decide) (fun _ _ _ _ _ => (pgd_name (i := 7) sc__law_right.nd rfl (by first | exact .inl rfl | exact .inr rfl))) (fun _ _ _ _ _ => ?h10) (fun _ _ _ _ _ => (pd_ix ix_d (pd_var 1) (pd_var 7))))
    case h9 => exact (pad_cons (pd_callB call_len_d (by rfl) T.n_len (by decide +kernel) (pad_cons (pd_var 1) pad_nil)) pad_nil)
    case h10 => exact (ptsd_one (ptd_cmp (op_eq_d hr.units) (pd_f (pf_lc rfl sc__law_right.nd (pid_seq (pd_slice (pd_var 1) (pod_some (pd_bin op_add_d (pd_var 7) pd_int)) pod_none)) (blkOk_by (own := [("_law_one", 8)]) (by rfl)) (by decide) (fun _ _ _ _ _ => (pgd_name (i := 8) sc__law_right.nd rfl (by first | exact .inl rfl | exact .inr rfl))) (fun _ _ _ _ _ => (ptsd_one (ptd_val (pd_callD T.f__law_touch (ok__law_touch T) hr (by decide) (by rfl) (pad_cons (pd_var 8) (pad_cons (pd_ix ix_d (pd_var 1) (pd_var 7)) pad_nil)))))) (fun _ _ _ _ _ => pd_int))) (pd_f (pf_lst pad_nil)) (by rfl)))
  refine psd_cons ?_ ?_
  · refine psd_for PassesOwn.never rfl (pid_r1 (by rfl) T.n_range (pad_cons pd_int pad_nil)) (pgd_name (i := 4) sc__law_right.nd rfl (by first | exact .inl rfl | exact .inr rfl)) ?_
    refine psd_cons ?_ ?_
    · refine (psd_setT (i := 5) sc__law_right.nd rfl (by first | exact .inl rfl | exact .inr rfl) (po_lst (pao_cons (po_f (pf_listO T.m_Heap___iter__ T.m_Heap___len__ (r_Heap___iter__ T) (r_Heap___len__ T) (hr.mono (by decide)) rfl (by rfl) T.n_list (pd_var 0))) (pao_cons (po_meth0 T.c_Heap T.m_Heap_levels (r_Heap_levels T) (hr.mono (by decide)) (pd_var 0)) (pao_cons (po_meth0 T.c_Heap T.m_Heap_firsts (r_Heap_firsts T) (hr.mono (by decide)) (pd_var 0)) (pao_cons (po_meth0 T.c_Heap T.m_Heap_lasts (r_Heap_lasts T) (hr.mono (by decide)) (pd_var 0)) pao_nil))))))
    refine psd_cons ?_ ?_
    · refine psd_if (ptd_bor 5 (pwd_or (ptd_not (ptd_val (pd_callDG T.f__law_alike (ok__law_alike T) hgd hr (by decide) (by rfl) (pad_cons (pd_var 5) (pad_cons (pd_f (pf_lst (pad_cons (pd_var 1) (pad_cons (pd_callD T.f__law_leveled (ok__law_leveled T) hr (by decide) (by rfl) (pad_cons (pd_var 1) pad_nil)) (pad_cons (pd_f (pf_sorted rfl (room_u70 hr) (by rfl) T.n_sorted (pad_cons (pd_var 2) pad_nil))) (pad_cons (pd_f (pf_sorted rfl (room_u70 hr) (by rfl) T.n_sorted (pad_cons (pd_var 3) pad_nil))) pad_nil)))))) pad_nil))))) (pwd_or1 (ptd_cmp (op_ne_d hr.units) (pd_lenO T.m_Heap___len__ (r_Heap___len__ T) (hr.mono (by decide)) (by rfl) T.n_len (pd_var 0)) (pd_callB call_len_d (by rfl) T.n_len (by decide +kernel) (pad_cons (pd_var 1) pad_nil)) (by rfl)))).pt) ?_ ?_
      · refine psd_one ?_
        refine (psd_ret pd_bl)
      · exact psd_nil
    refine psd_one ?_
    refine (psd_kick (j := 6) PassesOwn.never rfl (pk_cat (pr_var (pv 5)) (pr_ix (pr_var (pv 5)) pd_int)) sc__law_right.nd rfl (by first | exact .inl rfl | exact .inr rfl) (by first | exact .inl rfl | exact .inr rfl))
  refine psd_cons ?_ ?_
  · refine psd_if (pwd_or (ptd_not (ptd_val (pd_callDG T.f__law_ribbons_right (ok__law_ribbons_right T) hgd hr (by decide) (by rfl) (pad_cons (pd_var 0) (pad_cons (pd_var 1) pad_nil))))) (pwd_or1 (ptd_cmp (op_ne_d hr.units) (pd_f (pf_lc rfl sc__law_right.nd (pid_own T.m_Heap___iter__ (r_Heap___iter__ T) (hr.mono (by decide)) (pd_var 0)) (blkOk_by (own := [("_law_piece_here", 9)]) (by rfl)) (by decide) (fun _ _ _ _ _ => (pgd_name (i := 9) sc__law_right.nd rfl (by first | exact .inl rfl | exact .inr rfl))) (fun _ _ _ _ _ => ?h11) (fun _ _ _ _ _ => (pd_var 9)))) (pd_f (pf_lst pad_nil)) (by rfl)))).pt ?_ ?_
    case h11 => exact (ptsd_one (ptd_cmp (op_notInO T.m_Heap___contains__.at_ T.m_Heap___contains__.fn (r_Heap___contains__ T) (hr.mono (by decide))) (pd_var 9) (pd_var 0) (by rfl)))
    · refine psd_one ?_
      refine (psd_ret pd_bl)
    · exact psd_nil
  refine psd_one ?_
  refine (psd_ret (pd_cmp (op_eq_d hr.units) (pd_f (pf_lc rfl sc__law_right.nd (pid_seq (pd_var 1)) (blkOk_by (own := [("_law_piece_here", 9)]) (by rfl)) (by decide) (fun _ _ _ _ _ => (pgd_name (i := 9) sc__law_right.nd rfl (by first | exact .inl rfl | exact .inr rfl))) (fun _ _ _ _ _ => ?h12) (fun _ _ _ _ _ => (pd_var 9)))) (pd_f (pf_lst pad_nil)) (by rfl)))
  case h12 => exact (ptsd_one (ptd_cmp (op_ne_d hr.units) (pd_cmp (op_inO T.m_Heap___contains__.at_ T.m_Heap___contains__.fn (r_Heap___contains__ T) (hr.mono (by decide))) (pd_callD T.f__law_contrary (ok__law_contrary T) hr (by decide) (by rfl) (pad_cons (pd_var 9) pad_nil)) (pd_var 0) (by rfl)) (pd_cmp (op_inP (room_u65 hr)) (pd_callD T.f__law_contrary (ok__law_contrary T) hr (by decide) (by rfl) (pad_cons (pd_var 9) pad_nil)) (pd_var 1) (by rfl)) (by rfl)))
def law_at_9 : DTS := (dSet 3 (dOp oAdd (dOp oMul (dF (fLst (dCons (dVar 6) (dCons (dCall S__law_contrary (dCons (dVar 6) dNil)) dNil)))) (dCall S__law_take (dCons (dVar 1) (dCons (dC (.int 290)) dNil)))) (dVar 3)))
def law_at_16 : DTS := (dIfS (tNt (tBl (dCall S__law_right (dCons (dVar 8) (dCons (dVar 5) dNil))))) (dRet (dC (.bl false))) dNext)
def law_at_14 : DTS := (dSeq (dIfS (tIfOw 7 (tBor 7 (tBl (dIsiA "list" [5] (dVar 7)))) (tBl (dIsiA "list" [5] (dVar 7)))) (dAppR (rVar 7) (dTup (dCons (dC (.int 0)) (dCons (dC (.int 0)) (dCons (dC (.bl true)) (dCons (dC (.bl true)) dNil)))))) dNext)
  law_at_16)
def law_at_12 : DTS := (dSeq (dIfS (tIfOw 7 (tBor 7 (tBl (dOp oNe (dF (fList (dCons (dVar 7) dNil))) (dVar 3)))) (tBl (dOp oNe (dF (fList (dCons (dVar 7) dNil))) (dVar 3)))) (dRet (dC (.bl false))) dNext)
  law_at_14)
def law_at_11 : DTS := (dNorm 7 (dSeq (dIfOw 7 (dSetMk 8 5 7 So_Heap___init__) (dSet 8 (dMake 5 S_Heap___init__ (dCons (dVar 7) dNil))))
  law_at_12))
def law_at_10 : DTS := (dSeq (dSetT 7 (oCall S__law_handed (dCons (dVar 1) (dCons (dVar 3) dNil))))
  law_at_11)
def law_at_7 : DTS := (dSeq (dIfS (tBl (dOp oEq (dCall S__law_take (dCons (dVar 1) (dCons (dC (.int 5)) dNil))) (dC (.int 0)))) (dSeq (dSet 6 (dCall S__law_piece (dCons (dVar 1) (dCons (dC (.int 3)) (dCons (dC (.int 3)) dNil)))))
  law_at_9) dNext)
  law_at_10)
def law_at_6 : DTS := (dSeq (dSet 5 (dCall S__law_heaped (dCons (dVar 3) dNil)))
  law_at_7)
def law_at_5 : DTS := (dSeq (dSet 3 (dF (fLc (iSeq (dVar 3)) (gT 4 (gsCons (gN 9) (gsCons (gN 10) (gsCons (gN 11) (gsCons (gN 12) gsNil))))) dYes (dTup (dCons (dOp oAdd (dVar 9) (dVar 4)) (dCons (dVar 10) (dCons (dVar 11) (dCons (dVar 12) dNil))))) [9, 10, 11, 12])))
  law_at_6)
def law_at_4 : DTS := (dSeq (dSet 4 (dOp oIx (dF (fLst (dCons (dC (.int 0)) (dCons (dOp oPow (dC (.int 10)) (dC (.int 39))) dNil)))) (dCall cInt (dCons (dOp oEq (dCall S__law_take (dCons (dVar 1) (dCons (dC (.int 4)) dNil))) (dC (.int 0))) dNil))))
  law_at_5)
def b_law_1 : DTS := (dSeq (dSet 3 (dCall S__law_drawn_pieces (dCons (dVar 1) (dCons (dC (.int 14)) dNil))))
  law_at_4)
def law_at_18 : DTS := (dRet (dCall S__law_right (dCons (dMake 5 (dflI S_Heap___init__) dNil) (dCons (dF (fLst dNil)) dNil))))
def t_law : DTS := (dSeq (dFor (iR1 (dCons (dC (.int 5)) dNil)) (gN 2) b_law_1)
  law_at_18)
abbrev Pc := Int × Int × Bool × Bool
def tch (a b : Pc) : Bool := decide (a.1 = b.1) || decide (a.2.1 = b.2.1)
def ctr (p : Pc) : Pc := (p.1, p.2.1, p.2.2.1, !p.2.2.2)
theorem ctr_ctr (p : Pc) : ctr (ctr p) = p := by
  obtain ⟨i, j, a, o⟩ := p
  simp [ctr]
theorem tch_cl (a b : Pc) : tch (ctr a) b = tch a b := rfl
theorem tch_cr (a b : Pc) : tch a (ctr b) = tch a b := rfl
theorem tch_symm (a b : Pc) : tch a b = tch b a := by
  unfold tch
  rw [decide_eq_decide.mpr (eq_comm (a := a.1)), decide_eq_decide.mpr (eq_comm (a := a.2.1))]
theorem tch_self (a : Pc) : tch a a = true := by simp [tch]
/-- neighbours that pass one another are exchanged -/
inductive Cm : List Pc → List Pc → Prop
  | nil : Cm [] []
  | cons {u v : List Pc} (a : Pc) : Cm u v → Cm (a :: u) (a :: v)
  | swap {a b : Pc} (u : List Pc) : tch a b = false → Cm (a :: b :: u) (b :: a :: u)
  | trans {u v w : List Pc} : Cm u v → Cm v w → Cm u w
theorem Cm.refl : ∀ u : List Pc, Cm u u
  | [] => .nil
  | a :: u => .cons a (Cm.refl u)
theorem Cm.symm {u v : List Pc} (h : Cm u v) : Cm v u := by
  induction h with
  | nil => exact .nil
  | cons a _ ih => exact .cons a ih
  | swap u h => exact .swap u (by rw [tch_symm]; exact h)
  | trans _ _ i1 i2 => exact .trans i2 i1
theorem Cm.right {u v : List Pc} (h : Cm u v) (w : List Pc) : Cm (u ++ w) (v ++ w) := by
  induction h with
  | nil => exact Cm.refl _
  | cons a _ ih => exact .cons a ih
  | swap u h => exact .swap _ h
  | trans _ _ i1 i2 => exact .trans i1 i2
theorem Cm.left {u v : List Pc} (h : Cm u v) : ∀ w : List Pc, Cm (w ++ u) (w ++ v)
  | [] => h
  | a :: w => .cons a (Cm.left h w)
theorem Cm.rev {u v : List Pc} (h : Cm u v) : Cm u.reverse v.reverse := by
  induction h with
  | nil => exact .nil
  | cons a _ ih => rw [List.reverse_cons, List.reverse_cons]; exact ih.right _
  | @swap a b u h =>
    rw [List.reverse_cons, List.reverse_cons, List.reverse_cons, List.reverse_cons, List.append_assoc, List.append_assoc]
    exact Cm.left (.swap [] (by rw [tch_symm]; exact h)) _
  | trans _ _ i1 i2 => exact .trans i1 i2
theorem Cm.len {u v : List Pc} (h : Cm u v) : u.length = v.length := by
  induction h with
  | nil => rfl
  | cons a _ ih => rw [List.length_cons, List.length_cons, ih]
  | swap u h => rfl
  | trans _ _ i1 i2 => exact i1.trans i2
theorem Cm.map {f : Pc → Pc} (hf : ∀ a b, tch (f a) (f b) = tch a b) {u v : List Pc} (h : Cm u v) : Cm (u.map f) (v.map f) := by
  induction h with
  | nil => exact .nil
  | cons a _ ih => exact .cons _ ih
  | swap u h => exact .swap _ (by rw [hf]; exact h)
  | trans _ _ i1 i2 => exact .trans i1 i2
/-- what is behind all stands first; the last one that touches is taken out, if it is the contrary one -/
def rem : List Pc → Pc → Option (List Pc)
  | [], _ => none
  | q :: r, p => if tch q p = true then (if q = ctr p then some r else none) else (rem r p).map (q :: ·)
def psh (r : List Pc) (p : Pc) : List Pc := match rem r p with
  | none => p :: r
  | some r' => r'
theorem rem_n {q p : Pc} {r : List Pc} (h : tch q p = false) : rem (q :: r) p = (rem r p).map (q :: ·) := by
  rw [rem, if_neg (by rw [h]; decide)]
theorem rem_t {q p : Pc} {r : List Pc} (h : tch q p = true) : rem (q :: r) p = if q = ctr p then some r else none := by
  rw [rem, if_pos h]
theorem rem_cm {u v : List Pc} (p : Pc) (h : Cm u v) : (rem u p = none ∧ rem v p = none) ∨ ∃ u' v', rem u p = some u' ∧ rem v p = some v' ∧ Cm u' v' := by
  induction h with
  | nil => exact .inl ⟨rfl, rfl⟩
  | @cons u v a h ih =>
    cases t : tch a p with
    | true =>
      rw [rem_t t, rem_t t]
      by_cases c : a = ctr p
      · rw [if_pos c, if_pos c]; exact .inr ⟨_, _, rfl, rfl, h⟩
      · rw [if_neg c, if_neg c]; exact .inl ⟨rfl, rfl⟩
    | false =>
      rw [rem_n t, rem_n t]
      rcases ih with ⟨h1, h2⟩ | ⟨u', v', h1, h2, h3⟩
      · rw [h1, h2]; exact .inl ⟨rfl, rfl⟩
      · rw [h1, h2]; exact .inr ⟨_, _, rfl, rfl, .cons a h3⟩
  | @swap a b u h =>
    have h' : tch b a = false := by rw [tch_symm]; exact h
    cases t : tch a p with
    | true =>
      cases s : tch b p with
      | true =>
        have c1 : a ≠ ctr p := fun e => by
          rw [e, tch_cl, tch_symm, s] at h; cases h
        have c2 : b ≠ ctr p := fun e => by
          rw [e, tch_cr, t] at h; cases h
        rw [rem_t t, rem_t s, if_neg c1, if_neg c2]
        exact .inl ⟨rfl, rfl⟩
      | false =>
        rw [rem_t t, rem_n s, rem_t t]
        by_cases c : a = ctr p
        · rw [if_pos c, if_pos c]; exact .inr ⟨_, _, rfl, rfl, Cm.refl _⟩
        · rw [if_neg c, if_neg c]; exact .inl ⟨rfl, rfl⟩
    | false =>
      cases s : tch b p with
      | true =>
        rw [rem_n t, rem_t s, rem_t s]
        by_cases c : b = ctr p
        · rw [if_pos c, if_pos c]; exact .inr ⟨_, _, rfl, rfl, Cm.refl _⟩
        · rw [if_neg c, if_neg c]; exact .inl ⟨rfl, rfl⟩
      | false =>
        rw [rem_n t, rem_n s, rem_n s, rem_n t]
        cases e : rem u p with
        | none => exact .inl ⟨rfl, rfl⟩
        | some u' => exact .inr ⟨_, _, rfl, rfl, .swap _ h⟩
  | trans _ _ i1 i2 =>
    rcases i1 with ⟨h1, h2⟩ | ⟨u', v', h1, h2, h3⟩
    · rcases i2 with ⟨g1, g2⟩ | ⟨v2, w', g1, g2, g3⟩
      · exact .inl ⟨h1, g2⟩
      · rw [h2] at g1; cases g1
    · rcases i2 with ⟨g1, g2⟩ | ⟨v2, w', g1, g2, g3⟩
      · rw [h2] at g1; cases g1
      · rw [h2] at g1; cases g1
        exact .inr ⟨_, _, h1, g2, .trans h3 g3⟩
theorem rem_none {u v : List Pc} {p : Pc} (h : Cm u v) (e : rem u p = none) : rem v p = none := by
  rcases rem_cm p h with ⟨_, h2⟩ | ⟨_, _, h1, _⟩
  · exact h2
  · rw [e] at h1; cases h1
theorem rem_some {u v u' : List Pc} {p : Pc} (h : Cm u v) (e : rem u p = some u') : ∃ v', rem v p = some v' ∧ Cm u' v' := by
  rcases rem_cm p h with ⟨h1, _⟩ | ⟨_, v', h1, h2, h3⟩
  · rw [e] at h1; cases h1
  · rw [e] at h1; cases h1; exact ⟨v', h2, h3⟩
theorem psh_cm {u v : List Pc} (p : Pc) (h : Cm u v) : Cm (psh u p) (psh v p) := by
  unfold psh
  rcases rem_cm p h with ⟨h1, h2⟩ | ⟨u', v', h1, h2, h3⟩
  · rw [h1, h2]; exact .cons p h
  · rw [h1, h2]; exact h3
theorem rem_spec : ∀ {r r' : List Pc} {p : Pc}, rem r p = some r' → Cm r (ctr p :: r')
  | [], _, _, h => by cases h
  | q :: r, r', p, h => by
    cases t : tch q p with
    | true =>
      rw [rem_t t] at h
      by_cases c : q = ctr p
      · rw [if_pos c] at h; cases h; rw [c]; exact Cm.refl _
      · rw [if_neg c] at h; cases h
    | false =>
      rw [rem_n t] at h
      obtain ⟨s, hs, rfl⟩ := Option.map_eq_some_iff.mp h
      exact .trans (.cons q (rem_spec hs)) (.swap _ t)
/-- nothing can be taken out -/
def Rd : List Pc → Prop
  | [] => True
  | p :: r => Rd r ∧ rem r p = none
theorem Rd.cm {u v : List Pc} (h : Cm u v) : Rd u → Rd v := by
  induction h with
  | nil => exact id
  | cons a h ih => exact fun z => ⟨ih z.1, rem_none h z.2⟩
  | @swap a b u h =>
    rintro ⟨⟨h1, h2⟩, h3⟩
    have h' : tch b a = false := by rw [tch_symm]; exact h
    rw [rem_n h'] at h3
    refine ⟨⟨h1, Option.map_eq_none_iff.mp h3⟩, ?_⟩
    rw [rem_n h, h2]; rfl
  | trans _ _ i1 i2 => exact fun z => i2 (i1 z)
theorem Rd.rem {r r' : List Pc} {p : Pc} (h : Rd r) (e : My.rem r p = some r') : Rd (ctr p :: r') := Rd.cm (rem_spec e) h
theorem Rd.psh {r : List Pc} {p : Pc} (h : Rd r) : Rd (My.psh r p) := by
  unfold My.psh
  cases e : My.rem r p with
  | none => exact ⟨h, e⟩
  | some r' => exact (h.rem e).1
theorem psh_psh {r : List Pc} (p : Pc) (h : Rd r) : Cm (psh (psh r p) (ctr p)) r := by
  cases e : rem r p with
  | none =>
    have e1 : psh r p = p :: r := by unfold psh; rw [e]
    have e2 : rem (p :: r) (ctr p) = some r := by rw [rem_t (by rw [tch_cr]; exact tch_self p), if_pos (ctr_ctr p).symm]
    rw [e1]
    unfold psh
    rw [e2]
    exact Cm.refl _
  | some r' =>
    have e1 : psh r p = r' := by unfold psh; rw [e]
    have e2 := (h.rem e).2
    rw [e1]
    unfold psh
    rw [e2]
    exact (rem_spec e).symm
theorem psh_comm {p q : Pc} (h : tch p q = false) (r : List Pc) : Cm (psh (psh r p) q) (psh (psh r q) p) := by
  have h' : tch q p = false := by rw [tch_symm]; exact h
  have ps : ∀ {r r' : List Pc} {p : Pc}, rem r p = some r' → psh r p = r' := fun e => by unfold psh; rw [e]
  have pn : ∀ {r : List Pc} {p : Pc}, rem r p = none → psh r p = p :: r := fun e => by unfold psh; rw [e]
  have mix : ∀ {p q : Pc} {r r2 : List Pc}, tch p q = false → rem r p = none → rem r q = some r2 → psh (psh r p) q = psh (psh r q) p := by
    intro p q r r2 h e1 e2
    have h' : tch q p = false := by rw [tch_symm]; exact h
    have e3 : rem (ctr q :: r2) p = none := rem_none (rem_spec e2) e1
    rw [rem_n (by rw [tch_cl]; exact h')] at e3
    rw [pn e1, ps e2, pn (Option.map_eq_none_iff.mp e3)]
    exact ps (by rw [rem_n h, e2]; rfl)
  cases e1 : rem r p with
  | none =>
    cases e2 : rem r q with
    | none =>
      rw [pn e1, pn e2, pn (by rw [rem_n h, e2]; rfl), pn (by rw [rem_n h', e1]; rfl)]
      exact .swap r h'
    | some r2 => rw [mix h e1 e2]; exact Cm.refl _
  | some r1 =>
    cases e2 : rem r q with
    | none => rw [mix h' e2 e1]; exact Cm.refl _
    | some r2 =>
      obtain ⟨w, hw, hc⟩ := rem_some (rem_spec e1) e2
      rw [rem_n (by rw [tch_cl]; exact h)] at hw
      obtain ⟨s, hs, rfl⟩ := Option.map_eq_some_iff.mp hw
      rw [ps e1, ps e2, ps hs]
      have e3 : psh (ctr p :: s) p = s := ps (by rw [rem_t (by rw [tch_cl]; exact tch_self p), if_pos rfl])
      have := psh_cm p hc
      rw [e3] at this
      exact this.symm
def act (w : List Pc) (r : List Pc) : List Pc := w.foldl psh r
def Fw (w : List Pc) : List Pc := act w []
theorem act_app (u v r : List Pc) : act (u ++ v) r = act v (act u r) := List.foldl_append ..
theorem act_cm : ∀ (w : List Pc) {r s : List Pc}, Cm r s → Cm (act w r) (act w s)
  | [], _, _, h => h
  | p :: w, _, _, h => act_cm w (psh_cm p h)
theorem act_rd : ∀ (w : List Pc) {r : List Pc}, Rd r → Rd (act w r)
  | [], _, h => h
  | _ :: w, _, h => act_rd w h.psh
theorem act_sw {u v : List Pc} (h : Cm u v) : ∀ r, Cm (act u r) (act v r) := by
  induction h with
  | nil => exact fun r => Cm.refl _
  | cons a _ ih => exact fun r => ih (psh r a)
  | swap u h => exact fun r => act_cm u (psh_comm h r)
  | trans _ _ i1 i2 => exact fun r => .trans (i1 r) (i2 r)
theorem Fw_app (u v : List Pc) : Fw (u ++ v) = act v (Fw u) := act_app ..
theorem Fw_rd (u : List Pc) : Rd (Fw u) := act_rd u (r := []) trivial
theorem list_rev_ind {P : List Pc → Prop} (h0 : P []) (h1 : ∀ u p, P u → P (u ++ [p])) (u : List Pc) : P u := by
  have : ∀ v : List Pc, P v.reverse := fun v => by
    induction v with
    | nil => exact h0
    | cons p v ih => rw [List.reverse_cons]; exact h1 _ _ ih
  have := this u.reverse
  rw [List.reverse_reverse] at this
  exact this
theorem act_Fw {r : List Pc} (hr : Rd r) (w : List Pc) : Cm (act (Fw w).reverse r) (act w r) := by
  refine list_rev_ind (P := fun w => Cm (act (Fw w).reverse r) (act w r)) (Cm.refl _) (fun w p ih => ?_) w
  rw [Fw_app, act_app w [p] r]
  show Cm (act (psh (Fw w) p).reverse r) (psh (act w r) p)
  cases e : rem (Fw w) p with
  | none =>
    have e1 : psh (Fw w) p = p :: Fw w := by unfold psh; rw [e]
    rw [e1, List.reverse_cons, act_app]
    exact psh_cm p ih
  | some s =>
    have e1 : psh (Fw w) p = s := by unfold psh; rw [e]
    rw [e1]
    have h1 := act_sw (rem_spec e).rev r
    rw [List.reverse_cons, act_app] at h1
    have h2 : Cm (act w r) (psh (act s.reverse r) (ctr p)) := .trans ih.symm h1
    have h3 := psh_psh (ctr p) (act_rd s.reverse hr)
    rw [ctr_ctr] at h3
    exact .trans h3.symm (psh_cm p h2.symm)
/-- the same group element -/
def Qq (u v : List Pc) : Prop := Cm (Fw u) (Fw v)
theorem Qq.refl (u : List Pc) : Qq u u := Cm.refl _
theorem Qq.symm {u v : List Pc} (h : Qq u v) : Qq v u := Cm.symm h
theorem Qq.trans {u v w : List Pc} (h : Qq u v) (g : Qq v w) : Qq u w := Cm.trans h g
theorem Qq.app {u v x y : List Pc} (h : Qq u x) (g : Qq v y) : Qq (u ++ v) (x ++ y) := by
  unfold Qq
  rw [Fw_app, Fw_app]
  refine .trans (act_cm v h) ?_
  have rx := Fw_rd x
  exact .trans (act_Fw rx v).symm (.trans (act_sw (Cm.rev g) _) (act_Fw rx y))
theorem Qq.of_cm {u v : List Pc} (h : Cm u v) : Qq u v := act_sw h []
theorem Qq.Fw (u : List Pc) : Qq (My.Fw u).reverse u := act_Fw (r := []) trivial u
theorem Qq.pair (p : Pc) : Qq [p, ctr p] [] := by
  show Cm (psh (psh [] p) (ctr p)) []
  exact psh_psh (r := []) p trivial
theorem Qq.nil_iff {u : List Pc} : Qq u [] ↔ My.Fw u = [] := by
  constructor
  · intro h
    have := Cm.len h
    exact List.length_eq_zero_iff.mp this
  · intro h
    show Cm (My.Fw u) (My.Fw [])
    rw [h]; exact Cm.refl _
section
variable {α : Type} {le : α → α → Bool}
structure Ord (le : α → α → Bool) : Prop where
  tr : ∀ a b c, le a b = true → le b c = true → le a c = true
  tt : ∀ a b, (le a b || le b a) = true
  an : ∀ a b, le a b = true → le b a = true → a = b
theorem srt_uniq (o : Ord le) {u v : List α} (hu : u.Pairwise fun a b => le a b = true) (hv : v.Pairwise fun a b => le a b = true) (h : u.Perm v) : u = v := by
  induction u generalizing v with
  | nil => exact (List.nil_perm.mp h).symm
  | cons a u ih =>
    cases v with
    | nil => exact absurd h.length_eq (by simp)
    | cons b v =>
      have pu := List.pairwise_cons.mp hu
      have pv := List.pairwise_cons.mp hv
      have e : a = b := by
        rcases List.mem_cons.mp (h.mem_iff.mp List.mem_cons_self) with e | e
        · exact e
        · rcases List.mem_cons.mp (h.mem_iff.mpr List.mem_cons_self) with g | g
          · exact g.symm
          · exact o.an _ _ (pu.1 _ g) (pv.1 _ e)
      subst e
      rw [ih pu.2 pv.2 (List.Perm.cons_inv h)]
theorem srt_pw (o : Ord le) (u : List α) : (u.mergeSort le).Pairwise fun a b => le a b = true := List.pairwise_mergeSort o.tr o.tt u
theorem srt_perm (o : Ord le) {u v : List α} (h : u.Perm v) : u.mergeSort le = v.mergeSort le :=
  srt_uniq o (srt_pw o u) (srt_pw o v) ((List.mergeSort_perm u le).trans (h.trans (List.mergeSort_perm v le).symm))
theorem srt_snoc (o : Ord le) (u : List α) (z : α) : ∃ s1 s2, (u ++ [z]).mergeSort le = s1 ++ z :: s2 ∧ u.mergeSort le = s1 ++ s2 ∧ ∀ y ∈ s2, le z y = true := by
  have hz : z ∈ (u ++ [z]).mergeSort le := List.mem_mergeSort.mpr (by simp)
  obtain ⟨s1, s2, e⟩ := List.append_of_mem hz
  have pw := srt_pw o (u ++ [z])
  rw [e] at pw
  have pm : (s1 ++ z :: s2).Perm (u ++ [z]) := e ▸ List.mergeSort_perm (u ++ [z]) le
  have pa := List.pairwise_append.mp pw
  refine ⟨s1, s2, e, ?_, (List.pairwise_cons.mp pa.2.1).1⟩
  refine srt_uniq o (srt_pw o u) ?_ ?_
  · exact List.pairwise_append.mpr ⟨pa.1, (List.pairwise_cons.mp pa.2.1).2, fun a ha b hb => pa.2.2 a ha b (List.mem_cons_of_mem _ hb)⟩
  · have h1 : (z :: (s1 ++ s2)).Perm (z :: u) := (List.perm_middle.symm.trans pm).trans (List.perm_append_comm (l₁ := u) (l₂ := [z]))
    exact (List.mergeSort_perm u le).trans (List.Perm.cons_inv h1).symm
end
def bz (b : Bool) : Int := if b = true then 1 else 0
theorem bz_inj {a b : Bool} (h : bz a = bz b) : a = b := by
  cases a <;> cases b <;> first | rfl | (exact absurd h (by decide))
def leP (a b : Pc) : Bool := decide (a.1 < b.1 ∨ a.1 = b.1 ∧ (a.2.1 < b.2.1 ∨ a.2.1 = b.2.1 ∧ (bz a.2.2.1 < bz b.2.2.1 ∨ bz a.2.2.1 = bz b.2.2.1 ∧ bz a.2.2.2 ≤ bz b.2.2.2)))
abbrev Lp := Int × Pc
def leL (x y : Lp) : Bool := decide (x.1 < y.1 ∨ x.1 = y.1 ∧ leP x.2 y.2 = true)
theorem ordP : Ord leP where
  tr := fun a b c h g => by
    unfold leP at *
    rw [decide_eq_true_eq] at *
    omega
  tt := fun a b => by
    unfold leP
    rw [Bool.or_eq_true, decide_eq_true_eq, decide_eq_true_eq]
    omega
  an := fun a b h g => by
    unfold leP at *
    rw [decide_eq_true_eq] at *
    obtain ⟨a1, a2, a3, a4⟩ := a
    obtain ⟨b1, b2, b3, b4⟩ := b
    dsimp only at h g
    have e1 : a1 = b1 := by omega
    have e2 : a2 = b2 := by omega
    have e3 : a3 = b3 := bz_inj (by omega)
    have e4 : a4 = b4 := bz_inj (by omega)
    rw [e1, e2, e3, e4]
theorem ordL : Ord leL where
  tr := fun a b c h g => by
    unfold leL at *
    rw [decide_eq_true_eq] at *
    have := ordP.tr a.2 b.2 c.2
    rcases h with h | ⟨h1, h2⟩
    · exact .inl (by rcases g with g | g <;> omega)
    · rcases g with g | ⟨g1, g2⟩
      · exact .inl (by omega)
      · exact .inr ⟨by omega, this h2 g2⟩
  tt := fun a b => by
    unfold leL
    rw [Bool.or_eq_true, decide_eq_true_eq, decide_eq_true_eq]
    have := Bool.or_eq_true_iff.mp (ordP.tt a.2 b.2)
    rcases Int.lt_trichotomy a.1 b.1 with h | h | h
    · exact .inl (.inl h)
    · rcases this with g | g
      · exact .inl (.inr ⟨h, g⟩)
      · exact .inr (.inr ⟨h.symm, g⟩)
    · exact .inr (.inl h)
  an := fun a b h g => by
    unfold leL at *
    rw [decide_eq_true_eq] at *
    obtain ⟨a1, a2⟩ := a
    obtain ⟨b1, b2⟩ := b
    dsimp only at h g
    rcases h with h | ⟨h1, h2⟩
    · rcases g with g | ⟨g1, _⟩ <;> omega
    · rcases g with g | ⟨_, g2⟩
      · omega
      · rw [h1, ordP.an _ _ h2 g2]
/-- the level of a piece behind others -/
def mxl (acc : List Lp) (p : Pc) : Int := ((acc.filter fun z => tch z.2 p).map fun z => z.1 + 1).foldl max 0
def lev : List Lp → List Pc → List Lp
  | acc, [] => acc
  | acc, p :: u => lev (acc ++ [(mxl acc p, p)]) u
theorem fmx_le : ∀ {l : List Int} {a x : Int}, x = a ∨ x ∈ l → x ≤ l.foldl max a
  | [], a, x, h => by
    rcases h with h | h
    · rw [h]; exact Int.le_refl _
    · cases h
  | b :: l, a, x, h => by
    show x ≤ l.foldl max (max a b)
    rcases h with h | h
    · exact Int.le_trans (by rw [h]; exact Int.le_max_left ..) (fmx_le (.inl rfl))
    · rcases List.mem_cons.mp h with h | h
      · exact Int.le_trans (by rw [h]; exact Int.le_max_right ..) (fmx_le (.inl rfl))
      · exact fmx_le (.inr h)
theorem fmx_mem : ∀ {l : List Int} {a : Int}, l.foldl max a = a ∨ l.foldl max a ∈ l
  | [], a => .inl rfl
  | b :: l, a => by
    show l.foldl max (max a b) = a ∨ l.foldl max (max a b) ∈ b :: l
    rcases fmx_mem (l := l) (a := max a b) with h | h
    · rw [h]
      by_cases z : b ≤ a
      · exact .inl (Int.max_eq_left z)
      · exact .inr (by rw [Int.max_eq_right (by omega)]; exact List.mem_cons_self)
    · exact .inr (List.mem_cons_of_mem _ h)
theorem fmx_perm {l k : List Int} (h : l.Perm k) (a : Int) : l.foldl max a = k.foldl max a := by
  have one : ∀ {l k : List Int}, l.Perm k → l.foldl max a ≤ k.foldl max a := fun {l k} h => by
    rcases fmx_mem (l := l) (a := a) with e | e
    · rw [e]; exact fmx_le (.inl rfl)
    · exact fmx_le (.inr (h.mem_iff.mp e))
  exact Int.le_antisymm (one h) (one h.symm)
theorem mxl_perm {a b : List Lp} (h : a.Perm b) (p : Pc) : mxl a p = mxl b p := fmx_perm ((h.filter _).map _) 0
theorem mxl_ge {acc : List Lp} {z : Lp} {p : Pc} (hz : z ∈ acc) (t : tch z.2 p = true) : z.1 + 1 ≤ mxl acc p :=
  fmx_le (.inr (List.mem_map_of_mem (List.mem_filter.mpr ⟨hz, t⟩)))
theorem mxl_app {acc : List Lp} {z : Lp} {p : Pc} (t : tch z.2 p = false) : mxl (acc ++ [z]) p = mxl acc p := by
  unfold mxl
  rw [List.filter_append, List.filter_cons, if_neg (by rw [t]; decide), List.filter_nil, List.append_nil]
theorem lev_app : ∀ (u v : List Pc) (acc : List Lp), lev acc (u ++ v) = lev (lev acc u) v
  | [], _, _ => rfl
  | _ :: u, v, _ => lev_app u v _
theorem lev_perm : ∀ (u : List Pc) {a b : List Lp}, a.Perm b → (lev a u).Perm (lev b u)
  | [], _, _, h => h
  | p :: u, _, _, h => by
    rw [lev, lev, mxl_perm h]
    exact lev_perm u (h.append_right _)
theorem lev_cm {u v : List Pc} (h : Cm u v) : ∀ {a b : List Lp}, a.Perm b → (lev a u).Perm (lev b v) := by
  induction h with
  | nil => exact fun h => h
  | cons p _ ih =>
    intro a b h
    rw [lev, lev, mxl_perm h]
    exact ih (h.append_right _)
  | @swap p q u t =>
    intro a b h
    have t' : tch q p = false := by rw [tch_symm]; exact t
    rw [lev, lev, lev, lev, mxl_app (z := (mxl a p, p)) t, mxl_app (z := (mxl b q, q)) t', mxl_perm h, mxl_perm h]
    refine lev_perm u ?_
    rw [List.append_assoc, List.append_assoc]
    exact h.append (List.Perm.swap ..)
  | trans _ _ i1 i2 => exact fun h => (i1 h).trans (i2 (List.Perm.refl _))
theorem lev_snd : ∀ (u : List Pc) (acc : List Lp), (lev acc u).map (·.2) = acc.map (·.2) ++ u
  | [], _ => (List.append_nil _).symm
  | p :: u, acc => by
    rw [lev, lev_snd u, List.map_append, List.append_assoc]
    rfl
theorem lev_len (u : List Pc) (acc : List Lp) : (lev acc u).length = acc.length + u.length := by
  have := congrArg List.length (lev_snd u acc)
  simpa using this
/-- pieces by levels -/
def nf (w : List Pc) : List Pc := ((lev [] w).mergeSort leL).map (·.2)
theorem nf_cm {u v : List Pc} (h : Cm u v) : nf u = nf v := by
  unfold nf
  rw [srt_perm ordL (lev_cm h (List.Perm.refl _))]
theorem cm_over {p : Pc} : ∀ {s : List Pc} (_ : ∀ q ∈ s, tch q p = false), Cm (p :: s) (s ++ [p])
  | [], _ => Cm.refl _
  | q :: s, h => .trans (.swap s (by rw [tch_symm]; exact h q List.mem_cons_self)) (.cons q (cm_over fun z hz => h z (List.mem_cons_of_mem _ hz)))
theorem nf_nil : nf [] = [] := by simp [nf, lev]
theorem cm_nf (w : List Pc) : Cm (nf w) w := by
  refine list_rev_ind (P := fun w => Cm (nf w) w) (by rw [nf_nil]; exact .nil) (fun w p ih => ?_) w
  unfold nf
  rw [lev_app]
  show Cm (((lev [] w ++ [(mxl (lev [] w) p, p)]).mergeSort leL).map (·.2)) (w ++ [p])
  obtain ⟨s1, s2, e1, e2, h⟩ := srt_snoc ordL (lev [] w) (mxl (lev [] w) p, p)
  rw [e1]
  unfold nf at ih
  rw [e2] at ih
  have hs : ∀ q ∈ s2.map (·.2), tch q p = false := fun q hq => by
    obtain ⟨z, hz, rfl⟩ := List.mem_map.mp hq
    have h1 := h z hz
    have hm : z ∈ lev [] w := List.mem_mergeSort.mp (e2 ▸ List.mem_append_right _ hz)
    cases t : tch z.2 p with
    | false => rfl
    | true =>
      have h2 := mxl_ge hm t
      unfold leL at h1
      rw [decide_eq_true_eq] at h1
      dsimp only at h1
      omega
  rw [List.map_append, List.map_cons]
  have h3 : Cm (s1.map (·.2) ++ p :: s2.map (·.2)) (s1.map (·.2) ++ (s2.map (·.2) ++ [p])) := Cm.left (cm_over hs) _
  refine .trans h3 ?_
  rw [← List.append_assoc, ← List.map_append]
  exact ih.right [p]
/-- the one list of what is left -/
def Nn (u : List Pc) : List Pc := nf (Fw u).reverse
theorem Nn_q {u v : List Pc} (h : Qq u v) : Nn u = Nn v := nf_cm (Cm.rev h)
theorem q_Nn (u : List Pc) : Qq (Nn u) u := (Qq.of_cm (cm_nf _)).trans (Qq.Fw u)
theorem Nn_len (u : List Pc) : (Nn u).length = (Fw u).length := by
  have := (cm_nf (Fw u).reverse).len
  rw [List.length_reverse] at this
  exact this
theorem Nn_nil {u : List Pc} : Nn u = [] ↔ Qq u [] := by
  rw [Qq.nil_iff]
  have := Nn_len u
  constructor
  · intro h; rw [h] at this; exact List.length_eq_zero_iff.mp this.symm
  · intro h; rw [h] at this; exact List.length_eq_zero_iff.mp this
theorem Nn_Nn (u : List Pc) : Nn (Nn u) = Nn u := Nn_q (q_Nn u)
theorem rem_len : ∀ {r r' : List Pc} {p : Pc}, rem r p = some r' → r.length = r'.length + 1 := fun h => (rem_spec h).len
theorem Fw_len (u : List Pc) : (Fw u).length ≤ u.length ∧ ((Fw u).length = u.length → Fw u = u.reverse) := by
  refine list_rev_ind (P := fun u => (Fw u).length ≤ u.length ∧ ((Fw u).length = u.length → Fw u = u.reverse)) ⟨Nat.le_refl _, fun _ => rfl⟩ (fun u p ih => ?_) u
  rw [Fw_app]
  show (psh (Fw u) p).length ≤ _ ∧ ((psh (Fw u) p).length = _ → psh (Fw u) p = _)
  rw [List.length_append, List.reverse_append]
  show _ ≤ u.length + 1 ∧ (_ = u.length + 1 → _ = p :: u.reverse)
  cases e : rem (Fw u) p with
  | none =>
    have e1 : psh (Fw u) p = p :: Fw u := by unfold psh; rw [e]
    rw [e1, List.length_cons]
    exact ⟨by omega, fun h => by rw [ih.2 (by omega)]⟩
  | some s =>
    have e1 : psh (Fw u) p = s := by unfold psh; rw [e]
    have := rem_len e
    rw [e1]
    exact ⟨by omega, fun h => by omega⟩
/-- what stands on level 0 -/
def lv0 (w : List Pc) : List Pc := ((lev [] w).filter fun z => decide (z.1 = 0)).map (·.2)
def srtP (u : List Pc) : List Pc := u.mergeSort leP
def firstsF (A : List Pc) : List Pc := srtP (lv0s A)
where lv0s (A : List Pc) : List Pc := ((lev [] A).mergeSort leL |>.filter fun z => decide (z.1 = 0)).map (·.2)
theorem lv0s_perm (A : List Pc) : (firstsF.lv0s A).Perm (lv0 A) := ((List.mergeSort_perm (lev [] A) leL).filter _).map _
theorem srtP_perm {u v : List Pc} (h : u.Perm v) : srtP u = srtP v := srt_perm ordP h
theorem forD_c {g : DG} {tb : DTS} {W : DEnds} {d : D} {ds : List D} {δ : DS} : forD g tb W (d :: ds) δ = g d δ fun δ' => tb { W with nx := forD g tb W ds, ct := forD g tb W ds, bk := W.nx } δ' := propext Iff.rfl
theorem forD_n {g : DG} {tb : DTS} {W : DEnds} {δ : DS} : forD g tb W [] δ = W.nx δ := propext Iff.rfl
theorem zS_ii {k : Int} : isi "int" (.int k) = true := by rfl
theorem zS_bi {k : Int} : isi "bool" (.int k) = false := by rfl
theorem zS_bb {k : Bool} : isi "bool" (.bl k) = true := by rfl
theorem zS_tt {xs : List D} : isi "tuple" (.tup xs) = true := by rfl
theorem zS_ll {xs : List D} : isi2 "list" "tuple" (.lst xs) = true := by rfl
theorem zS_lt {xs : List D} : isi2 "list" "tuple" (.tup xs) = true := by rfl
theorem zS_lk {xs : List D} : isi2 "list" "tuple" (.ktup xs) = true := by rfl
def pcD (p : Pc) : D := .tup [.int p.1, .int p.2.1, .bl p.2.2.1, .bl p.2.2.2]
def lpD (z : Lp) : D := .tup [.int z.1, pcD z.2]
def lD (u : List Pc) : D := .lst (u.map pcD)
def hpD (A : List Pc) : D := .obj 5 [lD A]
structure Okp (p : Pc) : Prop where
  i0 : 0 ≤ p.1
  i1 : (D.int p.1).fine = true
  j0 : 0 ≤ p.2.1
  j1 : (D.int p.2.1).fine = true
def Okl (u : List Pc) : Prop := ∀ p ∈ u, Okp p
theorem int_fine {x : Int} (h0 : 0 ≤ x) (h1 : x ≤ 10 ^ 40) : (D.int x).fine = true := by
  have : x.natAbs.log2 < 1920 := by
    by_cases z : x.natAbs = 0
    · rw [z]; decide
    · exact (Nat.log2_lt z).mpr (Nat.lt_of_le_of_lt (show x.natAbs ≤ 10 ^ 40 by omega) (Nat.lt_of_lt_of_le (show 10 ^ 40 < 2 ^ 140 by decide) (Nat.pow_le_pow_right (by decide) (by decide))))
  exact decide_eq_true this
theorem pc_fine {p : Pc} (h : Okp p) : (pcD p).fine = true ∧ (pcD p).dep ≤ 1 := by
  have a := h.i1
  have b := h.j1
  refine ⟨?_, ?_⟩
  · simp only [pcD, D.fine, fineL, Bool.and_true] at a b ⊢
    simp only [a, b, Bool.and_self]
  · simp [pcD, D.dep, depL]
theorem pc_pl {p : Pc} (h : Okp p) : DL.plain (pcD p) = true := by
  unfold DL.plain
  rw [(pc_fine h).1, decide_eq_true (by have := (pc_fine h).2; omega)]
  rfl
theorem lp_pl {z : Lp} (h : Okp z.2) (h0 : 0 ≤ z.1) (h1 : z.1 ≤ 100000) : DL.plain (lpD z) = true := by
  have a := int_fine h0 (by omega)
  have b := pc_fine h
  unfold DL.plain
  rw [Bool.and_eq_true, decide_eq_true_eq]
  refine ⟨?_, ?_⟩
  · simp only [lpD, D.fine, fineL, Bool.and_true] at a ⊢
    simp only [a, b.1, Bool.and_self]
  · simp only [lpD, D.dep, depL]
    omega
theorem pl_lst {l : List D} {k : Nat} (h : ∀ d ∈ l, d.fine = true ∧ d.dep ≤ k) (hk : k ≤ 60) : DL.plain (.lst l) = true := by
  have key : fineL l = true ∧ depL l ≤ k := by
    induction l with
    | nil => exact ⟨rfl, Nat.zero_le _⟩
    | cons d l ih =>
      have h1 := h d List.mem_cons_self
      have h2 := ih fun x hx => h x (List.mem_cons_of_mem _ hx)
      refine ⟨?_, ?_⟩
      · simp [fineL, h1.1, h2.1]
      · simp only [depL]; omega
  unfold DL.plain
  simp [D.fine, D.dep, key.1]
  omega
theorem lD_pl {u : List Pc} (h : Okl u) : DL.plain (lD u) = true := pl_lst (k := 1) (fun d hd => by
  obtain ⟨p, hp, rfl⟩ := List.mem_map.mp hd
  exact pc_fine (h p hp)) (by decide)
theorem pc_eqb (x y : Pc) : eqb (pcD x) (pcD y) = decide (x = y) := by
  obtain ⟨a, b, c, d⟩ := x
  obtain ⟨e, f, g, h⟩ := y
  simp only [eqb, pcD, D.py, pyL, PyData.eqv, PyData.eqvAll]
  rw [Bool.eq_iff_iff]
  simp [Prod.ext_iff]
theorem eqb_cons (x y : D) (xs ys : List D) : eqb (.lst (x :: xs)) (.lst (y :: ys)) = (eqb x y && eqb (.lst xs) (.lst ys)) := by
  simp only [eqb, D.py, pyL, PyData.eqv, PyData.eqvAll]
theorem eqb_nil : eqb (.lst []) (.lst []) = true := by rfl
theorem eqb_nc (x : D) (xs : List D) : eqb (.lst (x :: xs)) (.lst []) = false := by
  simp only [eqb, D.py, pyL, PyData.eqv, PyData.eqvAll]
theorem eqb_cn (x : D) (xs : List D) : eqb (.lst []) (.lst (x :: xs)) = false := by
  simp only [eqb, D.py, pyL, PyData.eqv, PyData.eqvAll]
theorem eqb_map {α : Type} [DecidableEq α] {g : α → D} (hg : ∀ a b, eqb (g a) (g b) = decide (a = b)) : ∀ xs ys : List α, eqb (.lst (xs.map g)) (.lst (ys.map g)) = decide (xs = ys)
  | [], [] => by rw [List.map_nil, eqb_nil]; exact (decide_eq_true rfl).symm
  | [], y :: ys => by rw [List.map_nil, List.map_cons, eqb_cn]; exact (decide_eq_false (by simp)).symm
  | x :: xs, [] => by rw [List.map_nil, List.map_cons, eqb_nc]; exact (decide_eq_false (by simp)).symm
  | x :: xs, y :: ys => by
    rw [List.map_cons, List.map_cons, eqb_cons, hg, eqb_map hg xs ys, Bool.eq_iff_iff]
    simp
theorem lD_eqb (u v : List Pc) : eqb (lD u) (lD v) = decide (u = v) := eqb_map pc_eqb u v
theorem lt_i {x y : Int} {xs ys : List PyData} : PySem.W.dataLt (.tuple (.int x :: xs)) (.tuple (.int y :: ys)) = decide (x < y ∨ x = y ∧ PySem.W.dataLt (.tuple xs) (.tuple ys) = true) := by
  rw [lt_tup_cons (by rfl)]
  by_cases h : x = y
  · subst h
    rw [if_pos (by simp [PyData.eqv])]
    simp
  · rw [if_neg (by simp [PyData.eqv, h]), PySem.W.dataLt_int]
    simp [h]
theorem lt_b {x y : Bool} {xs ys : List PyData} : PySem.W.dataLt (.tuple (.bool x :: xs)) (.tuple (.bool y :: ys)) = decide (bz x < bz y ∨ bz x = bz y ∧ PySem.W.dataLt (.tuple xs) (.tuple ys) = true) := by
  rw [lt_tup_cons (by rfl)]
  by_cases h : x = y
  · subst h
    rw [if_pos (by simp [PyData.eqv])]
    simp
  · rw [if_neg (by simp [PyData.eqv, h]), PySem.W.dataLt_bool]
    cases x <;> cases y <;> first | exact absurd rfl h | rfl
theorem lt_pc (a b : Pc) : PySem.W.dataLt (pcD a).py (pcD b).py = decide (a.1 < b.1 ∨ a.1 = b.1 ∧ (a.2.1 < b.2.1 ∨ a.2.1 = b.2.1 ∧ (bz a.2.2.1 < bz b.2.2.1 ∨ bz a.2.2.1 = bz b.2.2.1 ∧ bz a.2.2.2 < bz b.2.2.2))) := by
  show PySem.W.dataLt (.tuple [.int a.1, .int a.2.1, .bool a.2.2.1, .bool a.2.2.2]) (.tuple [.int b.1, .int b.2.1, .bool b.2.2.1, .bool b.2.2.2]) = _
  rw [lt_i, lt_i, lt_b, lt_b, lt_tup_nil]
  simp only [decide_eq_true_eq, Bool.false_eq_true, and_false, or_false]
theorem dle_p (a b : Pc) : dleD (pcD a) (pcD b) = leP a b := by
  rw [dleD_eq, lt_pc]
  unfold leP
  rw [Bool.eq_iff_iff]
  simp only [Bool.not_eq_true', decide_eq_false_iff_not, decide_eq_true_eq]
  omega
theorem dle_l (a b : Lp) : dleD (lpD a) (lpD b) = leL a b := by
  rw [dleD_eq]
  show (!PySem.W.dataLt (.tuple [.int b.1, (pcD b.2).py]) (.tuple [.int a.1, (pcD a.2).py])) = _
  rw [lt_i, lt_tup_cons (by rfl), lt_tup_nil]
  have e : PyData.eqv (pcD b.2).py (pcD a.2).py = decide (b.2 = a.2) := pc_eqb b.2 a.2
  have g : (!PySem.W.dataLt (pcD b.2).py (pcD a.2).py) = leP a.2 b.2 := dle_p a.2 b.2
  unfold leL
  rw [← g, e, Bool.eq_iff_iff]
  have s : PySem.W.dataLt (pcD a.2).py (pcD a.2).py = false := by rw [lt_pc]; simp
  simp only [Bool.not_eq_true', decide_eq_false_iff_not, decide_eq_true_eq]
  by_cases h : b.2 = a.2
  · simp only [h, s, if_true, Bool.false_eq_true, and_false, or_false, and_true]
    omega
  · simp only [h, if_false]
    cases PySem.W.dataLt (pcD b.2).py (pcD a.2).py <;> simp <;> omega
theorem srt_pcs {u : List Pc} (h : Okl u) : SrtOk (u.map pcD) := by
  refine ⟨fun d hd => ?_, ?_, ?_⟩
  · obtain ⟨p, hp, rfl⟩ := List.mem_map.mp hd
    exact pc_pl (h p hp)
  · rw [List.map_map]
    exact PySem.W.AllAlike.of fun a b => by rfl
  · rw [List.map_map]
    exact PySem.W.Sortable.tuples fun a => ⟨_, _, rfl⟩
theorem srt_lps {u : List Lp} (h : ∀ z ∈ u, Okp z.2 ∧ 0 ≤ z.1 ∧ z.1 ≤ 100000) : SrtOk (u.map lpD) := by
  refine ⟨fun d hd => ?_, ?_, ?_⟩
  · obtain ⟨z, hz, rfl⟩ := List.mem_map.mp hd
    exact lp_pl (h z hz).1 (h z hz).2.1 (h z hz).2.2
  · rw [List.map_map]
    exact PySem.W.AllAlike.of fun a b => by rfl
  · rw [List.map_map]
    exact PySem.W.Sortable.tuples fun a => ⟨_, _, rfl⟩
theorem sort_p (u : List Pc) : sortD (u.map pcD) = (srtP u).map pcD := sort_map pcD leP fun a _ b _ => dle_p a b
theorem sort_l (u : List Lp) : sortD (u.map lpD) = (u.mergeSort leL).map lpD := sort_map lpD leL fun a _ b _ => dle_l a b
theorem integer_ok {x : Int} {Q : D → Prop} (hq : Q (.bl true)) : S_is_integer [.int x] Q := by
  refine ⟨rfl, ?_⟩
  simp only [t_is_integer, ↓zHd0, zHp0, ↓zGd0, ↓zGd1, ↓zGd2, ↓zGd3, ↓zGd4, zGp0, startD, ↓List.map_cons, ↓List.map_nil, ↓List.length_cons, ↓List.length_nil, Nat.reduceAdd, Nat.reduceSub, Nat.sub_self, List.replicate, ↓List.cons_append, ↓List.nil_append, List.append_nil, ↓List.getElem?_cons_zero, ↓List.getElem?_cons_succ, ↓List.set_cons_zero, ↓List.set_cons_succ, wipeD, Bool.not_true, Bool.not_false, decide_true, decide_false, beq_self_eq_true, true_and, and_true, Nat.reduceLeDiff, toDs, toDk, toDs_sh, ↓zS_ii, ↓zS_bi, ↓zS_bb, ↓zS_tt, ↓zS_ll, ↓zS_lt, ↓zS_lk]
  exact hq
theorem count_ok {x : Int} {Q : D → Prop} (h : 0 ≤ x) (hq : Q (.bl true)) : S_is_count [.int x] Q := by
  refine ⟨rfl, ?_⟩
  simp only [t_is_count, ↓zHd0, zHp0, ↓zGd0, ↓zGd1, ↓zGd2, ↓zGd3, ↓zGd4, zGp0, startD, ↓List.map_cons, ↓List.map_nil, ↓List.length_cons, ↓List.length_nil, Nat.reduceAdd, Nat.reduceSub, Nat.sub_self, List.replicate, ↓List.cons_append, ↓List.nil_append, List.append_nil, ↓List.getElem?_cons_zero, ↓List.getElem?_cons_succ, ↓List.set_cons_zero, ↓List.set_cons_succ, wipeD, Bool.not_true, Bool.not_false, decide_true, decide_false, beq_self_eq_true, true_and, and_true, Nat.reduceLeDiff, toDs, toDk, toDs_sh, ↓zS_ii, ↓zS_bi, ↓zS_bb, ↓zS_tt, ↓zS_ll, ↓zS_lt, ↓zS_lk]
  refine integer_ok ?_
  simp only [↓zHd0, zHp0, ↓zGd0, ↓zGd1, ↓zGd2, ↓zGd3, ↓zGd4, zGp0, startD, ↓List.map_cons, ↓List.map_nil, ↓List.length_cons, ↓List.length_nil, Nat.reduceAdd, Nat.reduceSub, Nat.sub_self, List.replicate, ↓List.cons_append, ↓List.nil_append, List.append_nil, ↓List.getElem?_cons_zero, ↓List.getElem?_cons_succ, ↓List.set_cons_zero, ↓List.set_cons_succ, wipeD, Bool.not_true, Bool.not_false, decide_true, decide_false, beq_self_eq_true, true_and, and_true, Nat.reduceLeDiff, toDs, toDk, toDs_sh, ↓zS_ii, ↓zS_bi, ↓zS_bb, ↓zS_tt, ↓zS_ll, ↓zS_lt, ↓zS_lk]
  rw [decide_eq_true (by omega)]
  exact hq
theorem piece_ok {p : Pc} {Q : D → Prop} (h : Okp p) (hq : Q (.bl true)) : S_is_piece [pcD p] Q := by
  refine ⟨rfl, ?_⟩
  unfold pcD
  simp only [t_is_piece, ↓zHd0, zHp0, ↓zGd0, ↓zGd1, ↓zGd2, ↓zGd3, ↓zGd4, zGp0, startD, ↓List.map_cons, ↓List.map_nil, ↓List.length_cons, ↓List.length_nil, Nat.reduceAdd, Nat.reduceSub, Nat.sub_self, List.replicate, ↓List.cons_append, ↓List.nil_append, List.append_nil, ↓List.getElem?_cons_zero, ↓List.getElem?_cons_succ, ↓List.set_cons_zero, ↓List.set_cons_succ, wipeD, Bool.not_true, Bool.not_false, decide_true, decide_false, beq_self_eq_true, true_and, and_true, Nat.reduceLeDiff, toDs, toDk, toDs_sh, ↓zS_ii, ↓zS_bi, ↓zS_bb, ↓zS_tt, ↓zS_ll, ↓zS_lt, ↓zS_lk]
  refine count_ok h.i0 ?_
  simp only [↓zHd0, zHp0, ↓zGd0, ↓zGd1, ↓zGd2, ↓zGd3, ↓zGd4, zGp0, startD, ↓List.map_cons, ↓List.map_nil, ↓List.length_cons, ↓List.length_nil, Nat.reduceAdd, Nat.reduceSub, Nat.sub_self, List.replicate, ↓List.cons_append, ↓List.nil_append, List.append_nil, ↓List.getElem?_cons_zero, ↓List.getElem?_cons_succ, ↓List.set_cons_zero, ↓List.set_cons_succ, wipeD, Bool.not_true, Bool.not_false, decide_true, decide_false, beq_self_eq_true, true_and, and_true, Nat.reduceLeDiff, toDs, toDk, toDs_sh, ↓zS_ii, ↓zS_bi, ↓zS_bb, ↓zS_tt, ↓zS_ll, ↓zS_lt, ↓zS_lk]
  refine count_ok h.j0 ?_
  simp only [↓zHd0, zHp0, ↓zGd0, ↓zGd1, ↓zGd2, ↓zGd3, ↓zGd4, zGp0, startD, ↓List.map_cons, ↓List.map_nil, ↓List.length_cons, ↓List.length_nil, Nat.reduceAdd, Nat.reduceSub, Nat.sub_self, List.replicate, ↓List.cons_append, ↓List.nil_append, List.append_nil, ↓List.getElem?_cons_zero, ↓List.getElem?_cons_succ, ↓List.set_cons_zero, ↓List.set_cons_succ, wipeD, Bool.not_true, Bool.not_false, decide_true, decide_false, beq_self_eq_true, true_and, and_true, Nat.reduceLeDiff, toDs, toDk, toDs_sh, ↓zS_ii, ↓zS_bi, ↓zS_bb, ↓zS_tt, ↓zS_ll, ↓zS_lt, ↓zS_lk]
  exact hq
/-- what is a sequence of pieces -/
structure Sqd (d : D) (u : List Pc) : Prop where
  it : ∀ QL : List D → Prop, QL (u.map pcD) → seqQ d QL
  is : ∀ Q : D → Prop, Q (.bl true) → isi2A "list" "tuple" [5] d Q
theorem sqd_l (u : List Pc) : Sqd (lD u) u := ⟨fun _ h => h, fun _ h => ⟨rfl, h⟩⟩
theorem sqd_t (u : List Pc) : Sqd (.tup (u.map pcD)) u := ⟨fun _ h => h, fun _ h => ⟨rfl, h⟩⟩
theorem sqd_k : Sqd (.ktup []) [] := ⟨fun _ h => h, fun _ h => ⟨rfl, h⟩⟩
theorem all_true {n : Nat} {Q : D → Prop} {α : Type} {xs : List α} (hq : Q (.bl true)) : cAll [.lst (xs.map fun _ => D.bl true)] Q := by
  show (match blsOf (xs.map fun _ => D.bl true) with | some bs => Q (.bl (bs.all id)) | none => False)
  have e : ∀ ys : List α, blsOf (ys.map fun _ => D.bl true) = some (ys.map fun _ => true) := fun ys => by
    induction ys with
    | nil => rfl
    | cons y ys ih =>
      rw [List.map_cons, List.map_cons]
      simp only [blsOf, ih]
      try rfl
  rw [e]
  have : (xs.map fun _ => true).all id = true := List.all_eq_true.mpr fun x hx => by obtain ⟨_, _, rfl⟩ := List.mem_map.mp hx; rfl
  show Q (.bl ((xs.map fun _ => true).all id))
  rw [this]
  exact hq
theorem pl_sz {α : Type} {f : α → D} {u : List α} (h : u.length ≤ 100000) : (u.map f).length ≤ sizeLine := by rw [List.length_map, sizeLine_eq]; omega
theorem are_ok {d : D} {u : List Pc} {Q : D → Prop} (hd : Sqd d u) (h : Okl u) (hl : u.length ≤ 100000) (hq : Q (.bl true)) : S_are_pieces [d] Q := by
  refine ⟨rfl, ?_⟩
  simp only [t_are_pieces, ↓zHd0, zHp0, ↓zGd0, ↓zGd1, ↓zGd2, ↓zGd3, ↓zGd4, zGp0, startD, ↓List.map_cons, ↓List.map_nil, ↓List.length_cons, ↓List.length_nil, Nat.reduceAdd, Nat.reduceSub, Nat.sub_self, List.replicate, ↓List.cons_append, ↓List.nil_append, List.append_nil, ↓List.getElem?_cons_zero, ↓List.getElem?_cons_succ, ↓List.set_cons_zero, ↓List.set_cons_succ, wipeD, Bool.not_true, Bool.not_false, decide_true, decide_false, beq_self_eq_true, true_and, and_true, Nat.reduceLeDiff, toDs, toDk, toDs_sh, ↓zS_ii, ↓zS_bi, ↓zS_bb, ↓zS_tt, ↓zS_ll, ↓zS_lt, ↓zS_lk]
  refine hd.is _ ?_
  simp only [↓zHd0, zHp0, ↓zGd0, ↓zGd1, ↓zGd2, ↓zGd3, ↓zGd4, zGp0, startD, ↓List.map_cons, ↓List.map_nil, ↓List.length_cons, ↓List.length_nil, Nat.reduceAdd, Nat.reduceSub, Nat.sub_self, List.replicate, ↓List.cons_append, ↓List.nil_append, List.append_nil, ↓List.getElem?_cons_zero, ↓List.getElem?_cons_succ, ↓List.set_cons_zero, ↓List.set_cons_succ, wipeD, Bool.not_true, Bool.not_false, decide_true, decide_false, beq_self_eq_true, true_and, and_true, Nat.reduceLeDiff, toDs, toDk, toDs_sh, ↓zS_ii, ↓zS_bi, ↓zS_bb, ↓zS_tt, ↓zS_ll, ↓zS_lt, ↓zS_lk]
  refine hd.it _ ⟨pl_sz hl, ?_⟩
  refine lc_of (α := Pc) pcD (fun _ => .bl true) u [] (fun p hp R hR => ?_) ?_
  · simp only [↓zHd0, zHp0, ↓zGd0, ↓zGd1, ↓zGd2, ↓zGd3, ↓zGd4, zGp0, startD, ↓List.map_cons, ↓List.map_nil, ↓List.length_cons, ↓List.length_nil, Nat.reduceAdd, Nat.reduceSub, Nat.sub_self, List.replicate, ↓List.cons_append, ↓List.nil_append, List.append_nil, ↓List.getElem?_cons_zero, ↓List.getElem?_cons_succ, ↓List.set_cons_zero, ↓List.set_cons_succ, wipeD, Bool.not_true, Bool.not_false, decide_true, decide_false, beq_self_eq_true, true_and, and_true, Nat.reduceLeDiff, toDs, toDk, toDs_sh, ↓zS_ii, ↓zS_bi, ↓zS_bb, ↓zS_tt, ↓zS_ll, ↓zS_lt, ↓zS_lk]
    exact piece_ok (h p hp) hR
  · exact all_true (n := 0) hq
theorem touch_ok {a b : Pc} {Q : D → Prop} (hq : Q (.bl (tch a b))) : S_touch [pcD a, pcD b] Q := by
  refine ⟨rfl, ?_⟩
  unfold pcD
  simp only [t_touch, ↓zHd0, zHp0, ↓zGd0, ↓zGd1, ↓zGd2, ↓zGd3, ↓zGd4, zGp0, startD, ↓List.map_cons, ↓List.map_nil, ↓List.length_cons, ↓List.length_nil, Nat.reduceAdd, Nat.reduceSub, Nat.sub_self, List.replicate, ↓List.cons_append, ↓List.nil_append, List.append_nil, ↓List.getElem?_cons_zero, ↓List.getElem?_cons_succ, ↓List.set_cons_zero, ↓List.set_cons_succ, wipeD, Bool.not_true, Bool.not_false, decide_true, decide_false, beq_self_eq_true, true_and, and_true, Nat.reduceLeDiff, toDs, toDk, toDs_sh, ↓zS_ii, ↓zS_bi, ↓zS_bb, ↓zS_tt, ↓zS_ll, ↓zS_lt, ↓zS_lk]
  unfold tch at hq
  by_cases h : a.1 = b.1
  · rw [decide_eq_true h] at hq ⊢
    simp only [↓zHd0, zHp0, ↓zGd0, ↓zGd1, ↓zGd2, ↓zGd3, ↓zGd4, zGp0, startD, ↓List.map_cons, ↓List.map_nil, ↓List.length_cons, ↓List.length_nil, Nat.reduceAdd, Nat.reduceSub, Nat.sub_self, List.replicate, ↓List.cons_append, ↓List.nil_append, List.append_nil, ↓List.getElem?_cons_zero, ↓List.getElem?_cons_succ, ↓List.set_cons_zero, ↓List.set_cons_succ, wipeD, Bool.not_true, Bool.not_false, decide_true, decide_false, beq_self_eq_true, true_and, and_true, Nat.reduceLeDiff, toDs, toDk, toDs_sh, ↓zS_ii, ↓zS_bi, ↓zS_bb, ↓zS_tt, ↓zS_ll, ↓zS_lt, ↓zS_lk]
    exact hq
  · rw [decide_eq_false h] at hq ⊢
    simp only [↓zHd0, zHp0, ↓zGd0, ↓zGd1, ↓zGd2, ↓zGd3, ↓zGd4, zGp0, startD, ↓List.map_cons, ↓List.map_nil, ↓List.length_cons, ↓List.length_nil, Nat.reduceAdd, Nat.reduceSub, Nat.sub_self, List.replicate, ↓List.cons_append, ↓List.nil_append, List.append_nil, ↓List.getElem?_cons_zero, ↓List.getElem?_cons_succ, ↓List.set_cons_zero, ↓List.set_cons_succ, wipeD, Bool.not_true, Bool.not_false, decide_true, decide_false, beq_self_eq_true, true_and, and_true, Nat.reduceLeDiff, toDs, toDk, toDs_sh, ↓zS_ii, ↓zS_bi, ↓zS_bb, ↓zS_tt, ↓zS_ll, ↓zS_lt, ↓zS_lk]
    exact hq
theorem lev_bd : ∀ (u : List Pc) (acc : List Lp), (∀ z ∈ acc, 0 ≤ z.1 ∧ z.1 + 1 ≤ acc.length) → ∀ z ∈ lev acc u, 0 ≤ z.1 ∧ z.1 + 1 ≤ (lev acc u).length
  | [], acc, h => h
  | p :: u, acc, h => by
    refine lev_bd u _ fun z hz => ?_
    rw [List.length_append, List.length_singleton]
    rcases List.mem_append.mp hz with hz | hz
    · have := h z hz; omega
    · rw [List.mem_singleton.mp hz]
      have h0 : 0 ≤ mxl acc p := fmx_le (.inl rfl)
      have h1 : mxl acc p ≤ acc.length := by
        rcases fmx_mem (l := (acc.filter fun z => tch z.2 p).map fun z => z.1 + 1) (a := 0) with e | e
        · unfold mxl; rw [e]; omega
        · obtain ⟨y, hy, e⟩ := List.mem_map.mp e
          have := h y (List.mem_filter.mp hy).1
          unfold mxl; rw [← e]; omega
      exact ⟨h0, by show mxl acc p + 1 ≤ _; omega⟩
theorem lev_mem {u : List Pc} {z : Lp} (h : z ∈ lev [] u) : z.2 ∈ u := by
  have := lev_snd u []
  rw [List.map_nil, List.nil_append] at this
  rw [← this]
  exact List.mem_map_of_mem h
theorem srt_lev {u : List Pc} (h : Okl u) (hl : u.length ≤ 100000) : SrtOk ((lev [] u).map lpD) := srt_lps fun z hz => by
  have a := lev_bd u [] (fun _ h => nomatch h) z hz
  rw [lev_len] at a
  rw [List.length_nil] at a
  exact ⟨h _ (lev_mem hz), a.1, by omega⟩
theorem mxl_ok {acc : List Lp} {p : Pc} {Q : D → Prop} (hq : Q (.int (mxl acc p))) : cMaxL [.lst (.int 0 :: (acc.filter fun z => tch z.2 p).map fun z => .int (z.1 + 1))] Q := by
  refine ⟨0 :: (acc.filter fun z => tch z.2 p).map fun z => z.1 + 1, ?_, by simp, fun m hm hle => ?_⟩
  · rw [List.map_cons, List.map_map]
    rfl
  · have e : m = mxl acc p := by
      unfold mxl
      have h1 : m ≤ (((acc.filter fun z => tch z.2 p).map fun z => z.1 + 1).foldl max 0) := fmx_le (List.mem_cons.mp hm)
      have h2 := hle _ (List.mem_cons.mpr (fmx_mem (l := (acc.filter fun z => tch z.2 p).map fun z => z.1 + 1) (a := 0)))
      omega
    rw [e]
    exact hq
theorem lc_fofG {β : Type} {g1 : DG} {tt : DT} {te : DE} {δ0 : DS} {Q : List D → Prop} (g h : β → D) (u : β → DS) (p : β → Bool) : ∀ (xs : List β) (acc : List D), (∀ y ∈ xs, ∀ F : DS → Prop, F (u y) → g1 (g y) δ0 F) → (∀ y ∈ xs, ∀ R : Bool → Prop, R (p y) → tt (u y) R) → (∀ y ∈ xs, p y = true → ∀ R : D → Prop, R (h y) → te (u y) R) → Q (acc ++ (xs.filter p).map h) → lcD g1 tt te δ0 Q (xs.map g) acc
  | [], acc, _, _, _, q => by
    rw [List.filter_nil, List.map_nil, List.append_nil] at q
    exact q
  | y :: xs, acc, h0, h1, h2, q => by
    show g1 (g y) δ0 fun δ' => tt δ' fun b => if b = true then te δ' fun z => lcD g1 tt te δ0 Q (xs.map g) (acc ++ [z]) else lcD g1 tt te δ0 Q (xs.map g) acc
    refine h0 y List.mem_cons_self _ (h1 y List.mem_cons_self _ ?_)
    cases hp : p y with
    | true =>
      rw [if_pos rfl]
      refine h2 y List.mem_cons_self hp _ (lc_fofG g h u p xs _ (fun z hz => h0 z (List.mem_cons_of_mem _ hz)) (fun z hz => h1 z (List.mem_cons_of_mem _ hz)) (fun z hz => h2 z (List.mem_cons_of_mem _ hz)) ?_)
      rw [List.filter_cons, if_pos hp] at q
      rw [List.append_assoc]
      exact q
    | false =>
      rw [if_neg (by decide)]
      refine lc_fofG g h u p xs _ (fun z hz => h0 z (List.mem_cons_of_mem _ hz)) (fun z hz => h1 z (List.mem_cons_of_mem _ hz)) (fun z hz => h2 z (List.mem_cons_of_mem _ hz)) ?_
      rw [List.filter_cons, if_neg (by simp [hp])] at q
      exact q
theorem lc_ofG {β : Type} {g1 : DG} {te : DE} {δ0 : DS} {Q : List D → Prop} (g h : β → D) (u : β → DS) (xs : List β) (acc : List D) (h0 : ∀ y ∈ xs, ∀ F : DS → Prop, F (u y) → g1 (g y) δ0 F) (h2 : ∀ y ∈ xs, ∀ R : D → Prop, R (h y) → te (u y) R) (q : Q (acc ++ xs.map h)) : lcD g1 dYes te δ0 Q (xs.map g) acc :=
  lc_fofG g h u (fun _ => true) xs acc h0 (fun _ _ _ r => r) (fun y hy _ => h2 y hy) (by rw [List.filter_eq_self.mpr (fun _ _ => rfl)]; exact q)
theorem wl_step {W : DEnds} {d : D} {p : Pc} {acc : List Lp} {o3 o4 o5 : Option SD} (hz : acc.length < 100000) (k : ∀ o4 o5, W.nx [some (.sh d), some (.sh (.lst ((acc ++ [(mxl acc p, p)]).map lpD))), some (.sh (pcD p)), some (.sh (.int (mxl acc p))), o4, o5]) : b_with_levels_1 W [some (.sh d), some (.sh (.lst (acc.map lpD))), some (.sh (pcD p)), o3, o4, o5] := by
  simp only [b_with_levels_1, ↓zHd0, zHp0, ↓zGd0, ↓zGd1, ↓zGd2, ↓zGd3, ↓zGd4, zGp0, startD, ↓List.map_cons, ↓List.map_nil, ↓List.length_cons, ↓List.length_nil, Nat.reduceAdd, Nat.reduceSub, Nat.sub_self, List.replicate, ↓List.cons_append, ↓List.nil_append, List.append_nil, ↓List.getElem?_cons_zero, ↓List.getElem?_cons_succ, ↓List.set_cons_zero, ↓List.set_cons_succ, wipeD, Bool.not_true, Bool.not_false, decide_true, decide_false, beq_self_eq_true, true_and, and_true, Nat.reduceLeDiff, toDs, toDk, toDs_sh, ↓zS_ii, ↓zS_bi, ↓zS_bb, ↓zS_tt, ↓zS_ll, ↓zS_lt, ↓zS_lk]
  refine ⟨pl_sz (by omega), ?_⟩
  refine lc_fofG lpD (fun z => .int (z.1 + 1)) (fun z => [some (.sh d), some (.sh (.lst (acc.map lpD))), some (.sh (pcD p)), o3, some (.sh (.int z.1)), some (.sh (pcD z.2))]) (fun z => tch z.2 p) acc [] (fun z _ F hF => ?_) (fun z _ R hR => ?_) (fun z _ _ R hR => ?_) ?_
  · unfold lpD
    simp only [↓zHd0, zHp0, ↓zGd0, ↓zGd1, ↓zGd2, ↓zGd3, ↓zGd4, zGp0, startD, ↓List.map_cons, ↓List.map_nil, ↓List.length_cons, ↓List.length_nil, Nat.reduceAdd, Nat.reduceSub, Nat.sub_self, List.replicate, ↓List.cons_append, ↓List.nil_append, List.append_nil, ↓List.getElem?_cons_zero, ↓List.getElem?_cons_succ, ↓List.set_cons_zero, ↓List.set_cons_succ, wipeD, Bool.not_true, Bool.not_false, decide_true, decide_false, beq_self_eq_true, true_and, and_true, Nat.reduceLeDiff, toDs, toDk, toDs_sh, ↓zS_ii, ↓zS_bi, ↓zS_bb, ↓zS_tt, ↓zS_ll, ↓zS_lt, ↓zS_lk]
    exact hF
  · simp only [↓zHd0, zHp0, ↓zGd0, ↓zGd1, ↓zGd2, ↓zGd3, ↓zGd4, zGp0, startD, ↓List.map_cons, ↓List.map_nil, ↓List.length_cons, ↓List.length_nil, Nat.reduceAdd, Nat.reduceSub, Nat.sub_self, List.replicate, ↓List.cons_append, ↓List.nil_append, List.append_nil, ↓List.getElem?_cons_zero, ↓List.getElem?_cons_succ, ↓List.set_cons_zero, ↓List.set_cons_succ, wipeD, Bool.not_true, Bool.not_false, decide_true, decide_false, beq_self_eq_true, true_and, and_true, Nat.reduceLeDiff, toDs, toDk, toDs_sh, ↓zS_ii, ↓zS_bi, ↓zS_bb, ↓zS_tt, ↓zS_ll, ↓zS_lt, ↓zS_lk]
    exact touch_ok hR
  · simp only [↓zHd0, zHp0, ↓zGd0, ↓zGd1, ↓zGd2, ↓zGd3, ↓zGd4, zGp0, startD, ↓List.map_cons, ↓List.map_nil, ↓List.length_cons, ↓List.length_nil, Nat.reduceAdd, Nat.reduceSub, Nat.sub_self, List.replicate, ↓List.cons_append, ↓List.nil_append, List.append_nil, ↓List.getElem?_cons_zero, ↓List.getElem?_cons_succ, ↓List.set_cons_zero, ↓List.set_cons_succ, wipeD, Bool.not_true, Bool.not_false, decide_true, decide_false, beq_self_eq_true, true_and, and_true, Nat.reduceLeDiff, toDs, toDk, toDs_sh, ↓zS_ii, ↓zS_bi, ↓zS_bb, ↓zS_tt, ↓zS_ll, ↓zS_lt, ↓zS_lk]
    exact hR
  · have hl := List.length_filter_le (fun z : Lp => tch z.2 p) acc
    rw [List.nil_append]
    refine ⟨by rw [List.length_map, sizeLine_eq]; omega, mxl_ok ⟨by rw [List.length_map, sizeLine_eq]; omega, ?_⟩⟩
    have e : (acc.map lpD) ++ [D.tup [.int (mxl acc p), pcD p]] = (acc ++ [(mxl acc p, p)]).map lpD := by
      rw [List.map_append]; rfl
    rw [e]
    exact k _ _
theorem wl_loop {W : DEnds} {d : D} : ∀ (u : List Pc) (acc : List Lp) (o2 o3 o4 o5 : Option SD), acc.length + u.length ≤ 100000 → (∀ o2 o3 o4 o5, W.nx [some (.sh d), some (.sh (.lst ((lev acc u).map lpD))), o2, o3, o4, o5]) → forD (gN 2) b_with_levels_1 W (u.map pcD) [some (.sh d), some (.sh (.lst (acc.map lpD))), o2, o3, o4, o5]
  | [], acc, o2, o3, o4, o5, _, k => by
    rw [List.map_nil, forD_n]
    exact k o2 o3 o4 o5
  | p :: u, acc, o2, o3, o4, o5, hz, k => by
    rw [List.length_cons] at hz
    rw [List.map_cons, forD_c]
    show b_with_levels_1 _ [some (.sh d), some (.sh (.lst (acc.map lpD))), some (.sh (pcD p)), o3, o4, o5]
    exact wl_step (by omega) fun o4 o5 => wl_loop u _ _ _ _ _ (by rw [List.length_append, List.length_singleton]; omega) k
theorem with_ok {u : List Pc} {Q : D → Prop} (h : Okl u) (hl : u.length ≤ 100000) (hq : Q (.lst (((lev [] u).mergeSort leL).map lpD))) : S_with_levels [lD u] Q := by
  refine ⟨rfl, ?_⟩
  unfold lD
  simp only [t_with_levels, ↓zHd0, zHp0, ↓zGd0, ↓zGd1, ↓zGd2, ↓zGd3, ↓zGd4, zGp0, startD, ↓List.map_cons, ↓List.map_nil, ↓List.length_cons, ↓List.length_nil, Nat.reduceAdd, Nat.reduceSub, Nat.sub_self, List.replicate, ↓List.cons_append, ↓List.nil_append, List.append_nil, ↓List.getElem?_cons_zero, ↓List.getElem?_cons_succ, ↓List.set_cons_zero, ↓List.set_cons_succ, wipeD, Bool.not_true, Bool.not_false, decide_true, decide_false, beq_self_eq_true, true_and, and_true, Nat.reduceLeDiff, toDs, toDk, toDs_sh, ↓zS_ii, ↓zS_bi, ↓zS_bb, ↓zS_tt, ↓zS_ll, ↓zS_lt, ↓zS_lk]
  refine wl_loop u [] _ _ _ _ (by rw [List.length_nil]; omega) fun o2 o3 o4 o5 => ?_
  simp only [↓zHd0, zHp0, ↓zGd0, ↓zGd1, ↓zGd2, ↓zGd3, ↓zGd4, zGp0, startD, ↓List.map_cons, ↓List.map_nil, ↓List.length_cons, ↓List.length_nil, Nat.reduceAdd, Nat.reduceSub, Nat.sub_self, List.replicate, ↓List.cons_append, ↓List.nil_append, List.append_nil, ↓List.getElem?_cons_zero, ↓List.getElem?_cons_succ, ↓List.set_cons_zero, ↓List.set_cons_succ, wipeD, Bool.not_true, Bool.not_false, decide_true, decide_false, beq_self_eq_true, true_and, and_true, Nat.reduceLeDiff, toDs, toDk, toDs_sh, ↓zS_ii, ↓zS_bi, ↓zS_bb, ↓zS_tt, ↓zS_ll, ↓zS_lt, ↓zS_lk]
  refine ⟨srt_lev h hl, ?_⟩
  rw [sort_l]
  exact hq
theorem zS_cut3 {a b c d : D} : cut [a, b, c, d] none (some 3) = [a, b, c] := by rfl
def pos : List Pc → Pc → Option Nat
  | [], _ => none
  | q :: r, p => if tch q p = true then (if q = ctr p then some r.length else none) else pos r p
def posD (o : Option Nat) : D := match o with
  | some m => .int m
  | none => .non
theorem pos_rem : ∀ {r : List Pc} {p : Pc}, (pos r p = none ∧ rem r p = none) ∨ ∃ m r', pos r p = some m ∧ rem r p = some r' ∧ m < r.length ∧ r'.reverse = r.reverse.take m ++ r.reverse.drop (m + 1)
  | [], p => .inl ⟨rfl, rfl⟩
  | q :: r, p => by
    by_cases h : tch q p = true
    · rw [pos, rem, if_pos h, if_pos h]
      by_cases e : q = ctr p
      · rw [if_pos e, if_pos e]
        refine .inr ⟨_, _, rfl, rfl, by simp, ?_⟩
        rw [List.reverse_cons, List.take_append_of_le_length (by simp), List.take_of_length_le (by simp), List.drop_of_length_le (by simp), List.append_nil]
      · rw [if_neg e, if_neg e]
        exact .inl ⟨rfl, rfl⟩
    · rw [pos, rem, if_neg h, if_neg h]
      rcases pos_rem (r := r) (p := p) with ⟨a, b⟩ | ⟨m, r', a, b, c, d⟩
      · rw [a, b]
        exact .inl ⟨rfl, rfl⟩
      · rw [a, b]
        refine .inr ⟨m, q :: r', rfl, rfl, by rw [List.length_cons]; omega, ?_⟩
        rw [List.reverse_cons, List.reverse_cons, d, List.take_append_of_le_length (by rw [List.length_reverse]; omega), List.drop_append_of_le_length (by rw [List.length_reverse]; omega), List.append_assoc]
theorem downs_c (lo : Int) (n : Nat) : downs lo (n + 1) = .int lo :: downs (lo - 1) n := by
  unfold downs
  rw [List.range_succ_eq_map, List.map_cons, List.map_map]
  congr 1
  · simp
  · refine List.map_congr_left fun k _ => ?_
    show D.int (lo - ((k + 1 : Nat) : Int)) = D.int (lo - 1 - k)
    congr 1
    omega
def r3D (ds : List D) (Q : List D → Prop) : Prop := match ds with
  | [.int a, .int b, .int c] => (c = -1 ∧ -(2 ^ 62) ≤ a ∧ a < 2 ^ 62 ∧ -(2 ^ 62) ≤ b ∧ b < 2 ^ 62) ∧ Q (downs a (a - b).toNat)
  | _ => False
theorem zS_r3 {ra : DA} {δ : DS} {Q : List D → Prop} : iR3 ra δ Q = ra δ fun ds => r3D ds Q := propext Iff.rfl
theorem zS_r3D {a b c : Int} {Q : List D → Prop} : r3D [.int a, .int b, .int c] Q = ((c = -1 ∧ -(2 ^ 62) ≤ a ∧ a < 2 ^ 62 ∧ -(2 ^ 62) ≤ b ∧ b < 2 ^ 62) ∧ Q (downs a (a - b).toNat)) := propext Iff.rfl
theorem notB_eq {b : Bool} {F : Bool → Prop} : notB b F = F (!b) := by cases b <;> rfl
theorem po_step {W : DEnds} {K : List Pc} {p q : Pc} {m : Nat} (hq : K[m]? = some q) (oq : Okp q) (op : Okp p) (k1 : tch q p = true → W.rt (posD (if q = ctr p then some m else none))) (k2 : tch q p = false → W.nx [some (.sh (lD K)), some (.sh (pcD p)), some (.sh (.int m))]) : b_place_of_undone_1 W [some (.sh (lD K)), some (.sh (pcD p)), some (.sh (.int m))] := by
  have hm : (K.map pcD)[((m : Int)).toNat]? = some (pcD q) := by rw [Int.toNat_natCast, List.getElem?_map, hq]; rfl
  unfold lD at k2 ⊢
  simp only [b_place_of_undone_1, ↓zHd0, zHp0, ↓zGd0, ↓zGd1, ↓zGd2, ↓zGd3, ↓zGd4, zGp0, startD, ↓List.map_cons, ↓List.map_nil, ↓List.length_cons, ↓List.length_nil, Nat.reduceAdd, Nat.reduceSub, Nat.sub_self, List.replicate, ↓List.cons_append, ↓List.nil_append, List.append_nil, ↓List.getElem?_cons_zero, ↓List.getElem?_cons_succ, ↓List.set_cons_zero, ↓List.set_cons_succ, wipeD, Bool.not_true, Bool.not_false, decide_true, decide_false, beq_self_eq_true, true_and, and_true, Nat.reduceLeDiff, toDs, toDk, toDs_sh, ↓zS_ii, ↓zS_bi, ↓zS_bb, ↓zS_tt, ↓zS_ll, ↓zS_lt, ↓zS_lk, ↓zS_cut3, ↓zS_r3, ↓zS_r3D]
  rw [atI_q (by omega) hm]
  simp only [↓zHd0, zHp0, ↓zGd0, ↓zGd1, ↓zGd2, ↓zGd3, ↓zGd4, zGp0, startD, ↓List.map_cons, ↓List.map_nil, ↓List.length_cons, ↓List.length_nil, Nat.reduceAdd, Nat.reduceSub, Nat.sub_self, List.replicate, ↓List.cons_append, ↓List.nil_append, List.append_nil, ↓List.getElem?_cons_zero, ↓List.getElem?_cons_succ, ↓List.set_cons_zero, ↓List.set_cons_succ, wipeD, Bool.not_true, Bool.not_false, decide_true, decide_false, beq_self_eq_true, true_and, and_true, Nat.reduceLeDiff, toDs, toDk, toDs_sh, ↓zS_ii, ↓zS_bi, ↓zS_bb, ↓zS_tt, ↓zS_ll, ↓zS_lt, ↓zS_lk, ↓zS_cut3, ↓zS_r3, ↓zS_r3D]
  refine touch_ok ?_
  cases ht : tch q p with
  | false =>
    simp only [↓zHd0, zHp0, ↓zGd0, ↓zGd1, ↓zGd2, ↓zGd3, ↓zGd4, zGp0, startD, ↓List.map_cons, ↓List.map_nil, ↓List.length_cons, ↓List.length_nil, Nat.reduceAdd, Nat.reduceSub, Nat.sub_self, List.replicate, ↓List.cons_append, ↓List.nil_append, List.append_nil, ↓List.getElem?_cons_zero, ↓List.getElem?_cons_succ, ↓List.set_cons_zero, ↓List.set_cons_succ, wipeD, Bool.not_true, Bool.not_false, decide_true, decide_false, beq_self_eq_true, true_and, and_true, Nat.reduceLeDiff, toDs, toDk, toDs_sh, ↓zS_ii, ↓zS_bi, ↓zS_bb, ↓zS_tt, ↓zS_ll, ↓zS_lt, ↓zS_lk, ↓zS_cut3, ↓zS_r3, ↓zS_r3D]
    exact k2 ht
  | true =>
    simp only [↓zHd0, zHp0, ↓zGd0, ↓zGd1, ↓zGd2, ↓zGd3, ↓zGd4, zGp0, startD, ↓List.map_cons, ↓List.map_nil, ↓List.length_cons, ↓List.length_nil, Nat.reduceAdd, Nat.reduceSub, Nat.sub_self, List.replicate, ↓List.cons_append, ↓List.nil_append, List.append_nil, ↓List.getElem?_cons_zero, ↓List.getElem?_cons_succ, ↓List.set_cons_zero, ↓List.set_cons_succ, wipeD, Bool.not_true, Bool.not_false, decide_true, decide_false, beq_self_eq_true, true_and, and_true, Nat.reduceLeDiff, toDs, toDk, toDs_sh, ↓zS_ii, ↓zS_bi, ↓zS_bb, ↓zS_tt, ↓zS_ll, ↓zS_lt, ↓zS_lk, ↓zS_cut3, ↓zS_r3, ↓zS_r3D]
    rw [atI_q (by omega) hm]
    have e1 : ∀ Q : D → Prop, oSl (pcD p) none (some 3) Q = Q (.tup [.int p.1, .int p.2.1, .bl p.2.2.1]) := fun Q => by
      unfold pcD
      simp only [↓zHd0, zHp0, ↓zGd0, ↓zGd1, ↓zGd2, ↓zGd3, ↓zGd4, zGp0, startD, ↓List.map_cons, ↓List.map_nil, ↓List.length_cons, ↓List.length_nil, Nat.reduceAdd, Nat.reduceSub, Nat.sub_self, List.replicate, ↓List.cons_append, ↓List.nil_append, List.append_nil, ↓List.getElem?_cons_zero, ↓List.getElem?_cons_succ, ↓List.set_cons_zero, ↓List.set_cons_succ, wipeD, Bool.not_true, Bool.not_false, decide_true, decide_false, beq_self_eq_true, true_and, and_true, Nat.reduceLeDiff, toDs, toDk, toDs_sh, ↓zS_ii, ↓zS_bi, ↓zS_bb, ↓zS_tt, ↓zS_ll, ↓zS_lt, ↓zS_lk, ↓zS_cut3, ↓zS_r3, ↓zS_r3D]
    have e2 : ∀ Q : D → Prop, oIx (pcD p) (.int 3) Q = Q (.bl p.2.2.2) := fun Q => by
      unfold pcD
      simp only [↓zHd0, zHp0, ↓zGd0, ↓zGd1, ↓zGd2, ↓zGd3, ↓zGd4, zGp0, startD, ↓List.map_cons, ↓List.map_nil, ↓List.length_cons, ↓List.length_nil, Nat.reduceAdd, Nat.reduceSub, Nat.sub_self, List.replicate, ↓List.cons_append, ↓List.nil_append, List.append_nil, ↓List.getElem?_cons_zero, ↓List.getElem?_cons_succ, ↓List.set_cons_zero, ↓List.set_cons_succ, wipeD, Bool.not_true, Bool.not_false, decide_true, decide_false, beq_self_eq_true, true_and, and_true, Nat.reduceLeDiff, toDs, toDk, toDs_sh, ↓zS_ii, ↓zS_bi, ↓zS_bb, ↓zS_tt, ↓zS_ll, ↓zS_lt, ↓zS_lk, ↓zS_cut3, ↓zS_r3, ↓zS_r3D]
    simp only [↓zHd0, zHp0, ↓zGd0, ↓zGd1, ↓zGd2, ↓zGd3, ↓zGd4, zGp0, startD, ↓List.map_cons, ↓List.map_nil, ↓List.length_cons, ↓List.length_nil, Nat.reduceAdd, Nat.reduceSub, Nat.sub_self, List.replicate, ↓List.cons_append, ↓List.nil_append, List.append_nil, ↓List.getElem?_cons_zero, ↓List.getElem?_cons_succ, ↓List.set_cons_zero, ↓List.set_cons_succ, wipeD, Bool.not_true, Bool.not_false, decide_true, decide_false, beq_self_eq_true, true_and, and_true, Nat.reduceLeDiff, toDs, toDk, toDs_sh, ↓zS_ii, ↓zS_bi, ↓zS_bb, ↓zS_tt, ↓zS_ll, ↓zS_lt, ↓zS_lk, ↓zS_cut3, ↓zS_r3, ↓zS_r3D]
    rw [e1, e2]
    have e3 : (D.tup [.int p.1, .int p.2.1, .bl p.2.2.1, .bl (!p.2.2.2)]) = pcD (ctr p) := rfl
    simp only [↓zHd0, zHp0, ↓zGd0, ↓zGd1, ↓zGd2, ↓zGd3, ↓zGd4, zGp0, startD, ↓List.map_cons, ↓List.map_nil, ↓List.length_cons, ↓List.length_nil, Nat.reduceAdd, Nat.reduceSub, Nat.sub_self, List.replicate, ↓List.cons_append, ↓List.nil_append, List.append_nil, ↓List.getElem?_cons_zero, ↓List.getElem?_cons_succ, ↓List.set_cons_zero, ↓List.set_cons_succ, wipeD, Bool.not_true, Bool.not_false, decide_true, decide_false, beq_self_eq_true, true_and, and_true, Nat.reduceLeDiff, toDs, toDk, toDs_sh, ↓zS_ii, ↓zS_bi, ↓zS_bb, ↓zS_tt, ↓zS_ll, ↓zS_lt, ↓zS_lk, ↓zS_cut3, ↓zS_r3, ↓zS_r3D]
    rw [notB_eq, e3]
    refine ⟨⟨by simp, by rw [sizeLine_eq]; decide⟩, ?_⟩
    have e4 : ∀ Q : D → Prop, oEq (pcD q) (pcD (ctr p)) Q = ((DL.plain (pcD q) = true ∧ DL.plain (pcD (ctr p)) = true) ∧ Q (.bl (eqb (pcD q) (pcD (ctr p))))) := fun Q => propext Iff.rfl
    rw [e4, pc_eqb]
    refine ⟨⟨pc_pl oq, pc_pl ⟨op.i0, op.i1, op.j0, op.j1⟩⟩, ?_⟩
    have k1 := k1 ht
    by_cases h : q = ctr p
    · rw [if_pos h] at k1
      rw [decide_eq_true h]
      simp only [↓zHd0, zHp0, ↓zGd0, ↓zGd1, ↓zGd2, ↓zGd3, ↓zGd4, zGp0, startD, ↓List.map_cons, ↓List.map_nil, ↓List.length_cons, ↓List.length_nil, Nat.reduceAdd, Nat.reduceSub, Nat.sub_self, List.replicate, ↓List.cons_append, ↓List.nil_append, List.append_nil, ↓List.getElem?_cons_zero, ↓List.getElem?_cons_succ, ↓List.set_cons_zero, ↓List.set_cons_succ, wipeD, Bool.not_true, Bool.not_false, decide_true, decide_false, beq_self_eq_true, true_and, and_true, Nat.reduceLeDiff, toDs, toDk, toDs_sh, ↓zS_ii, ↓zS_bi, ↓zS_bb, ↓zS_tt, ↓zS_ll, ↓zS_lt, ↓zS_lk, ↓zS_cut3, ↓zS_r3, ↓zS_r3D]
      exact k1
    · rw [if_neg h] at k1
      rw [decide_eq_false h]
      simp only [↓zHd0, zHp0, ↓zGd0, ↓zGd1, ↓zGd2, ↓zGd3, ↓zGd4, zGp0, startD, ↓List.map_cons, ↓List.map_nil, ↓List.length_cons, ↓List.length_nil, Nat.reduceAdd, Nat.reduceSub, Nat.sub_self, List.replicate, ↓List.cons_append, ↓List.nil_append, List.append_nil, ↓List.getElem?_cons_zero, ↓List.getElem?_cons_succ, ↓List.set_cons_zero, ↓List.set_cons_succ, wipeD, Bool.not_true, Bool.not_false, decide_true, decide_false, beq_self_eq_true, true_and, and_true, Nat.reduceLeDiff, toDs, toDk, toDs_sh, ↓zS_ii, ↓zS_bi, ↓zS_bb, ↓zS_tt, ↓zS_ll, ↓zS_lt, ↓zS_lk, ↓zS_cut3, ↓zS_r3, ↓zS_r3D]
      exact k1
/-- the loop -/
theorem po_loop {W : DEnds} {K : List Pc} {p : Pc} (hK : Okl K) (hl : K.length ≤ 100000) (op : Okp p) : ∀ (r s : List Pc) (o2 : Option SD), K = r.reverse ++ s → (∀ m, pos r p = some m → W.rt (.int m)) → (pos r p = none → W.rt .non) → (pos r p = none → ∀ o2, W.nx [some (.sh (lD K)), some (.sh (pcD p)), o2]) → forD (gN 2) b_place_of_undone_1 W (downs ((r.length : Int) - 1) r.length) [some (.sh (lD K)), some (.sh (pcD p)), o2]
  | [], s, o2, e, k1, k2, k3 => k3 rfl o2
  | q :: r, s, o2, e, k1, k2, k3 => by
    rw [List.length_cons, downs_c, forD_c, show ((r.length + 1 : Nat) : Int) - 1 = (r.length : Int) by omega]
    show b_place_of_undone_1 _ [some (.sh (lD K)), some (.sh (pcD p)), some (.sh (.int (r.length : Int)))]
    have hq : K[r.length]? = some q := by
      rw [e, List.reverse_cons, List.append_assoc, List.getElem?_append_right (by simp), List.length_reverse, Nat.sub_self]
      rfl
    refine po_step hq (hK q (List.mem_of_getElem? hq)) op (fun ht => ?_) (fun ht => ?_)
    · have e1 : pos (q :: r) p = if q = ctr p then some r.length else none := by rw [pos, if_pos ht]
      by_cases h : q = ctr p
      · rw [if_pos h]
        exact k1 _ (by rw [e1, if_pos h])
      · rw [if_neg h]
        exact k2 (by rw [e1, if_neg h])
    · have e1 : pos (q :: r) p = pos r p := by rw [pos, if_neg (by rw [ht]; decide)]
      rw [e1] at k1 k2 k3
      exact po_loop hK hl op r (q :: s) _ (by rw [e, List.reverse_cons, List.append_assoc]; rfl) k1 k2 k3
theorem place_ok {r : List Pc} {p : Pc} {Q : D → Prop} (hK : Okl r) (hl : r.length ≤ 100000) (op : Okp p) (hq : Q (posD (pos r p))) : S_place_of_undone [lD r.reverse, pcD p] Q := by
  refine ⟨rfl, ?_⟩
  unfold lD
  simp only [t_place_of_undone, ↓zHd0, zHp0, ↓zGd0, ↓zGd1, ↓zGd2, ↓zGd3, ↓zGd4, zGp0, startD, ↓List.map_cons, ↓List.map_nil, ↓List.length_cons, ↓List.length_nil, Nat.reduceAdd, Nat.reduceSub, Nat.sub_self, List.replicate, ↓List.cons_append, ↓List.nil_append, List.append_nil, ↓List.getElem?_cons_zero, ↓List.getElem?_cons_succ, ↓List.set_cons_zero, ↓List.set_cons_succ, wipeD, Bool.not_true, Bool.not_false, decide_true, decide_false, beq_self_eq_true, true_and, and_true, Nat.reduceLeDiff, toDs, toDk, toDs_sh, ↓zS_ii, ↓zS_bi, ↓zS_bb, ↓zS_tt, ↓zS_ll, ↓zS_lt, ↓zS_lk, ↓zS_cut3, ↓zS_r3, ↓zS_r3D]
  rw [List.length_map, List.length_reverse]
  refine ⟨⟨by omega, by omega, by decide, by decide⟩, ?_⟩
  rw [show ((r.length : Int) - 1 - -1).toNat = r.length by omega]
  refine po_loop (K := r.reverse) (fun x hx => hK x (List.mem_reverse.mp hx)) (by rw [List.length_reverse]; exact hl) op r [] none (by rw [List.append_nil]) (fun m hm => ?_) (fun hm => ?_) (fun hm o2 => ?_)
  · rw [hm] at hq; exact hq
  · rw [hm] at hq; exact hq
  · rw [hm] at hq; exact hq
theorem zS_nonI {m : Int} : isNonD (.int m) = false := by rfl
theorem zS_nonN : isNonD .non = true := by rfl
theorem cut_to {α : Type} {xs : List α} {m : Nat} (h : m ≤ xs.length) : cut xs none (some (m : Int)) = xs.take m := by
  unfold cut
  rw [HT.sIx_nat, show HT.sIx xs.length 0 none = 0 from rfl, Nat.min_eq_left h, List.drop_zero, Nat.sub_zero]
theorem cut_from {α : Type} {xs : List α} {m : Nat} (h : m ≤ xs.length) : cut xs (some (m : Int)) none = xs.drop m := by
  unfold cut
  rw [HT.sIx_nat, show HT.sIx xs.length xs.length none = xs.length from rfl, Nat.min_eq_left h]
  exact List.take_of_length_le (by rw [List.length_drop]; omega)
theorem Okp.ctr {p : Pc} (h : Okp p) : Okp (My.ctr p) := ⟨h.i0, h.i1, h.j0, h.j1⟩
theorem Cm_mem {u v : List Pc} (h : Cm u v) (x : Pc) : x ∈ u ↔ x ∈ v := by
  induction h with
  | nil => exact Iff.rfl
  | cons a _ ih => simp [ih]
  | swap u h => simp only [List.mem_cons]; exact ⟨fun z => by rcases z with z | z | z <;> simp [z], fun z => by rcases z with z | z | z <;> simp [z]⟩
  | trans _ _ i1 i2 => exact i1.trans i2
theorem rem_okl {r r' : List Pc} {p : Pc} (h : Okl r) (e : rem r p = some r') : Okl r' := fun x hx => by
  have g := rem_spec e
  exact h x ((Cm_mem g x).mpr (List.mem_cons_of_mem _ hx))
theorem wo_step {W : DEnds} {d : D} {r : List Pc} {p : Pc} {o3 : Option SD} (h : Okl r) (hl : r.length < 100000) (op : Okp p) (k : ∀ o3, W.nx [some (.sh d), some (.sh (lD (psh r p).reverse)), some (.sh (pcD p)), o3]) : b_without_undone_1 W [some (.sh d), some (.sh (lD r.reverse)), some (.sh (pcD p)), o3] := by
  simp only [b_without_undone_1, ↓zHd0, zHp0, ↓zGd0, ↓zGd1, ↓zGd2, ↓zGd3, ↓zGd4, zGp0, startD, ↓List.map_cons, ↓List.map_nil, ↓List.length_cons, ↓List.length_nil, Nat.reduceAdd, Nat.reduceSub, Nat.sub_self, List.replicate, ↓List.cons_append, ↓List.nil_append, List.append_nil, ↓List.getElem?_cons_zero, ↓List.getElem?_cons_succ, ↓List.set_cons_zero, ↓List.set_cons_succ, wipeD, Bool.not_true, Bool.not_false, decide_true, decide_false, beq_self_eq_true, true_and, and_true, Nat.reduceLeDiff, toDs, toDk, toDs_sh, ↓zS_ii, ↓zS_bi, ↓zS_bb, ↓zS_tt, ↓zS_ll, ↓zS_lt, ↓zS_lk, ↓zS_cut3, ↓zS_r3, ↓zS_r3D, ↓zS_nonI, ↓zS_nonN]
  refine place_ok h (by omega) op ?_
  rcases pos_rem (r := r) (p := p) with ⟨a, b⟩ | ⟨m, r', a, b, c, e⟩
  · rw [a]
    have e1 : psh r p = p :: r := by unfold psh; rw [b]
    rw [e1] at k
    unfold posD lD at *
    simp only [↓zHd0, zHp0, ↓zGd0, ↓zGd1, ↓zGd2, ↓zGd3, ↓zGd4, zGp0, startD, ↓List.map_cons, ↓List.map_nil, ↓List.length_cons, ↓List.length_nil, Nat.reduceAdd, Nat.reduceSub, Nat.sub_self, List.replicate, ↓List.cons_append, ↓List.nil_append, List.append_nil, ↓List.getElem?_cons_zero, ↓List.getElem?_cons_succ, ↓List.set_cons_zero, ↓List.set_cons_succ, wipeD, Bool.not_true, Bool.not_false, decide_true, decide_false, beq_self_eq_true, true_and, and_true, Nat.reduceLeDiff, toDs, toDk, toDs_sh, ↓zS_ii, ↓zS_bi, ↓zS_bb, ↓zS_tt, ↓zS_ll, ↓zS_lt, ↓zS_lk, ↓zS_cut3, ↓zS_r3, ↓zS_r3D, ↓zS_nonI, ↓zS_nonN]
    refine ⟨by rw [List.length_map, List.length_reverse, sizeLine_eq]; omega, ?_⟩
    rw [List.reverse_cons, List.map_append] at k
    exact k _
  · rw [a]
    have e1 : psh r p = r' := by unfold psh; rw [b]
    rw [e1, e] at k
    unfold lD at k
    rw [List.map_append, List.map_take, List.map_drop] at k
    have c1 : m ≤ (r.reverse.map pcD).length := by rw [List.length_map, List.length_reverse]; omega
    have c2 : m + 1 ≤ (r.reverse.map pcD).length := by rw [List.length_map, List.length_reverse]; omega
    unfold posD lD at *
    simp only [↓zHd0, zHp0, ↓zGd0, ↓zGd1, ↓zGd2, ↓zGd3, ↓zGd4, zGp0, startD, ↓List.map_cons, ↓List.map_nil, ↓List.length_cons, ↓List.length_nil, Nat.reduceAdd, Nat.reduceSub, Nat.sub_self, List.replicate, ↓List.cons_append, ↓List.nil_append, List.append_nil, ↓List.getElem?_cons_zero, ↓List.getElem?_cons_succ, ↓List.set_cons_zero, ↓List.set_cons_succ, wipeD, Bool.not_true, Bool.not_false, decide_true, decide_false, beq_self_eq_true, true_and, and_true, Nat.reduceLeDiff, toDs, toDk, toDs_sh, ↓zS_ii, ↓zS_bi, ↓zS_bb, ↓zS_tt, ↓zS_ll, ↓zS_lt, ↓zS_lk, ↓zS_cut3, ↓zS_r3, ↓zS_r3D, ↓zS_nonI, ↓zS_nonN]
    rw [cut_to c1, show (m : Int) + 1 = ((m + 1 : Nat) : Int) by omega, cut_from c2]
    refine ⟨by rw [List.length_take, List.length_drop, sizeLine_eq]; rw [List.length_map, List.length_reverse] at *; omega, k _⟩
theorem psh_okl {r : List Pc} {p : Pc} (h : Okl r) (op : Okp p) : Okl (psh r p) := by
  unfold psh
  cases e : rem r p with
  | none => exact List.forall_mem_cons.mpr ⟨op, h⟩
  | some r' => exact rem_okl h e
theorem psh_len (r : List Pc) (p : Pc) : (psh r p).length ≤ r.length + 1 := by
  unfold psh
  cases e : rem r p with
  | none => exact Nat.le_refl _
  | some r' => have := rem_len e; show r'.length ≤ _; omega
theorem act_okl : ∀ (u : List Pc) {r : List Pc}, Okl u → Okl r → Okl (act u r)
  | [], _, _, h => h
  | p :: u, r, h, g => act_okl u (r := psh r p) (fun x hx => h x (List.mem_cons_of_mem _ hx)) (psh_okl g (h p List.mem_cons_self))
theorem Fw_okl {u : List Pc} (h : Okl u) : Okl (Fw u).reverse := fun x hx => act_okl u (r := []) h (fun _ z => nomatch z) x (List.mem_reverse.mp hx)
theorem wo_loop {W : DEnds} {d : D} : ∀ (u r : List Pc) (o2 o3 : Option SD), Okl u → Okl r → r.length + u.length ≤ 100000 → (∀ o2 o3, W.nx [some (.sh d), some (.sh (lD (act u r).reverse)), o2, o3]) → forD (gN 2) b_without_undone_1 W (u.map pcD) [some (.sh d), some (.sh (lD r.reverse)), o2, o3]
  | [], r, o2, o3, _, _, _, k => k o2 o3
  | p :: u, r, o2, o3, hu, hr, hz, k => by
    rw [List.length_cons] at hz
    rw [List.map_cons, forD_c]
    show b_without_undone_1 _ [some (.sh d), some (.sh (lD r.reverse)), some (.sh (pcD p)), o3]
    have := psh_len r p
    exact wo_step hr (by omega) (hu p List.mem_cons_self) fun o3 => wo_loop u (psh r p) _ _ (fun x hx => hu x (List.mem_cons_of_mem _ hx)) (psh_okl hr (hu p List.mem_cons_self)) (by omega) k
theorem without_ok {d : D} {u : List Pc} {Q : D → Prop} (hd : Sqd d u) (h : Okl u) (hl : u.length ≤ 100000) (hq : Q (lD (Fw u).reverse)) : S_without_undone [d] Q := by
  refine ⟨rfl, ?_⟩
  simp only [t_without_undone, ↓zHd0, zHp0, ↓zGd0, ↓zGd1, ↓zGd2, ↓zGd3, ↓zGd4, zGp0, startD, ↓List.map_cons, ↓List.map_nil, ↓List.length_cons, ↓List.length_nil, Nat.reduceAdd, Nat.reduceSub, Nat.sub_self, List.replicate, ↓List.cons_append, ↓List.nil_append, List.append_nil, ↓List.getElem?_cons_zero, ↓List.getElem?_cons_succ, ↓List.set_cons_zero, ↓List.set_cons_succ, wipeD, Bool.not_true, Bool.not_false, decide_true, decide_false, beq_self_eq_true, true_and, and_true, Nat.reduceLeDiff, toDs, toDk, toDs_sh, ↓zS_ii, ↓zS_bi, ↓zS_bb, ↓zS_tt, ↓zS_ll, ↓zS_lt, ↓zS_lk, ↓zS_cut3, ↓zS_r3, ↓zS_r3D, ↓zS_nonI, ↓zS_nonN]
  refine hd.it _ ?_
  refine wo_loop u [] none none h (fun _ z => nomatch z) (by rw [List.length_nil]; omega) fun o2 o3 => ?_
  simp only [↓zHd0, zHp0, ↓zGd0, ↓zGd1, ↓zGd2, ↓zGd3, ↓zGd4, zGp0, startD, ↓List.map_cons, ↓List.map_nil, ↓List.length_cons, ↓List.length_nil, Nat.reduceAdd, Nat.reduceSub, Nat.sub_self, List.replicate, ↓List.cons_append, ↓List.nil_append, List.append_nil, ↓List.getElem?_cons_zero, ↓List.getElem?_cons_succ, ↓List.set_cons_zero, ↓List.set_cons_succ, wipeD, Bool.not_true, Bool.not_false, decide_true, decide_false, beq_self_eq_true, true_and, and_true, Nat.reduceLeDiff, toDs, toDk, toDs_sh, ↓zS_ii, ↓zS_bi, ↓zS_bb, ↓zS_tt, ↓zS_ll, ↓zS_lt, ↓zS_lk, ↓zS_cut3, ↓zS_r3, ↓zS_r3D, ↓zS_nonI, ↓zS_nonN]
  exact hq
abbrev oP (u : List Pc) : OD := .lst ((u.map pcD).map .sh)
theorem oP_D (u : List Pc) : (oP u).toD = lD u := by unfold oP; rw [OD.toD, toDs_sh]; rfl
theorem olPl_P (u : List Pc) : olPl (oP u) = true := by
  unfold oP olPl
  rw [List.all_eq_true]
  intro z hz
  obtain ⟨d, hd, rfl⟩ := List.mem_map.mp hz
  obtain ⟨x, hx, rfl⟩ := List.mem_map.mp hd
  rfl
theorem in_order_ok {d : D} {u : List Pc} {Q : OD → Prop} (hd : Sqd d u) (h : Okl u) (hl : u.length ≤ 100000) (hq : Q (oP (Nn u))) : S_in_order [d] Q := by
  have hf : (Fw u).reverse.length ≤ 100000 := by rw [List.length_reverse]; have := (Fw_len u).1; omega
  refine ⟨rfl, ?_⟩
  simp only [t_in_order, ↓zHd0, zHp0, ↓zGd0, ↓zGd1, ↓zGd2, ↓zGd3, ↓zGd4, zGp0, startD, ↓List.map_cons, ↓List.map_nil, ↓List.length_cons, ↓List.length_nil, Nat.reduceAdd, Nat.reduceSub, Nat.sub_self, List.replicate, ↓List.cons_append, ↓List.nil_append, List.append_nil, ↓List.getElem?_cons_zero, ↓List.getElem?_cons_succ, ↓List.set_cons_zero, ↓List.set_cons_succ, wipeD, Bool.not_true, Bool.not_false, decide_true, decide_false, beq_self_eq_true, true_and, and_true, Nat.reduceLeDiff, toDs, toDk, toDs_sh, ↓zS_ii, ↓zS_bi, ↓zS_bb, ↓zS_tt, ↓zS_ll, ↓zS_lt, ↓zS_lk, ↓zS_cut3, ↓zS_r3, ↓zS_r3D, ↓zS_nonI, ↓zS_nonN]
  refine without_ok hd h hl ?_
  refine with_ok (Fw_okl h) hf ?_
  simp only [↓zHd0, zHp0, ↓zGd0, ↓zGd1, ↓zGd2, ↓zGd3, ↓zGd4, zGp0, startD, ↓List.map_cons, ↓List.map_nil, ↓List.length_cons, ↓List.length_nil, Nat.reduceAdd, Nat.reduceSub, Nat.sub_self, List.replicate, ↓List.cons_append, ↓List.nil_append, List.append_nil, ↓List.getElem?_cons_zero, ↓List.getElem?_cons_succ, ↓List.set_cons_zero, ↓List.set_cons_succ, wipeD, Bool.not_true, Bool.not_false, decide_true, decide_false, beq_self_eq_true, true_and, and_true, Nat.reduceLeDiff, toDs, toDk, toDs_sh, ↓zS_ii, ↓zS_bi, ↓zS_bb, ↓zS_tt, ↓zS_ll, ↓zS_lt, ↓zS_lk, ↓zS_cut3, ↓zS_r3, ↓zS_r3D, ↓zS_nonI, ↓zS_nonN]
  refine ⟨pl_sz (by rw [List.length_mergeSort, lev_len, List.length_nil]; omega), ?_⟩
  refine lc_ofG lpD (fun z => pcD z.2) (fun z => [some (.sh d), some (.sh (.int z.1)), some (.sh (pcD z.2))]) _ [] (fun z _ F hF => ?_) (fun z _ R hR => ?_) ?_
  · unfold lpD
    simp only [↓zHd0, zHp0, ↓zGd0, ↓zGd1, ↓zGd2, ↓zGd3, ↓zGd4, zGp0, startD, ↓List.map_cons, ↓List.map_nil, ↓List.length_cons, ↓List.length_nil, Nat.reduceAdd, Nat.reduceSub, Nat.sub_self, List.replicate, ↓List.cons_append, ↓List.nil_append, List.append_nil, ↓List.getElem?_cons_zero, ↓List.getElem?_cons_succ, ↓List.set_cons_zero, ↓List.set_cons_succ, wipeD, Bool.not_true, Bool.not_false, decide_true, decide_false, beq_self_eq_true, true_and, and_true, Nat.reduceLeDiff, toDs, toDk, toDs_sh, ↓zS_ii, ↓zS_bi, ↓zS_bb, ↓zS_tt, ↓zS_ll, ↓zS_lt, ↓zS_lk, ↓zS_cut3, ↓zS_r3, ↓zS_r3D, ↓zS_nonI, ↓zS_nonN]
    exact hF
  · simp only [↓zHd0, zHp0, ↓zGd0, ↓zGd1, ↓zGd2, ↓zGd3, ↓zGd4, zGp0, startD, ↓List.map_cons, ↓List.map_nil, ↓List.length_cons, ↓List.length_nil, Nat.reduceAdd, Nat.reduceSub, Nat.sub_self, List.replicate, ↓List.cons_append, ↓List.nil_append, List.append_nil, ↓List.getElem?_cons_zero, ↓List.getElem?_cons_succ, ↓List.set_cons_zero, ↓List.set_cons_succ, wipeD, Bool.not_true, Bool.not_false, decide_true, decide_false, beq_self_eq_true, true_and, and_true, Nat.reduceLeDiff, toDs, toDk, toDs_sh, ↓zS_ii, ↓zS_bi, ↓zS_bb, ↓zS_tt, ↓zS_ll, ↓zS_lt, ↓zS_lk, ↓zS_cut3, ↓zS_r3, ↓zS_r3D, ↓zS_nonI, ↓zS_nonN]
    exact hR
  · have e : (((lev [] (Fw u).reverse).mergeSort leL).map fun z => pcD z.2) = (Nn u).map pcD := by
      unfold Nn nf
      rw [List.map_map]; rfl
    rw [List.nil_append, e]
    exact hq
theorem init_ok {d : D} {u : List Pc} {Q : List D → Prop} (hd : Sqd d u) (h : Okl u) (hl : u.length ≤ 100000) (hq : Q [lD (Nn u)]) : S_Heap___init__ [d] Q := by
  refine ⟨rfl, fun x => ?_⟩
  show t_Heap___init__ _ [some (.nw x 5 []), some (.sh d)]
  simp only [t_Heap___init__, ↓zHd0, zHp0, ↓zGd0, ↓zGd1, ↓zGd2, ↓zGd3, ↓zGd4, zGp0, startD, ↓List.map_cons, ↓List.map_nil, ↓List.length_cons, ↓List.length_nil, Nat.reduceAdd, Nat.reduceSub, Nat.sub_self, List.replicate, ↓List.cons_append, ↓List.nil_append, List.append_nil, ↓List.getElem?_cons_zero, ↓List.getElem?_cons_succ, ↓List.set_cons_zero, ↓List.set_cons_succ, wipeD, Bool.not_true, Bool.not_false, decide_true, decide_false, beq_self_eq_true, true_and, and_true, Nat.reduceLeDiff, toDs, toDk, toDs_sh, ↓zS_ii, ↓zS_bi, ↓zS_bb, ↓zS_tt, ↓zS_ll, ↓zS_lt, ↓zS_lk, ↓zS_cut3, ↓zS_r3, ↓zS_r3D, ↓zS_nonI, ↓zS_nonN]
  refine are_ok hd h hl ?_
  simp only [notB_eq, ↓zHd0, zHp0, ↓zGd0, ↓zGd1, ↓zGd2, ↓zGd3, ↓zGd4, zGp0, startD, ↓List.map_cons, ↓List.map_nil, ↓List.length_cons, ↓List.length_nil, Nat.reduceAdd, Nat.reduceSub, Nat.sub_self, List.replicate, ↓List.cons_append, ↓List.nil_append, List.append_nil, ↓List.getElem?_cons_zero, ↓List.getElem?_cons_succ, ↓List.set_cons_zero, ↓List.set_cons_succ, wipeD, Bool.not_true, Bool.not_false, decide_true, decide_false, beq_self_eq_true, true_and, and_true, Nat.reduceLeDiff, toDs, toDk, toDs_sh, ↓zS_ii, ↓zS_bi, ↓zS_bb, ↓zS_tt, ↓zS_ll, ↓zS_lt, ↓zS_lk, ↓zS_cut3, ↓zS_r3, ↓zS_r3D, ↓zS_nonI, ↓zS_nonN]
  show dSelf 0 0 5 (dFz (oCall S_in_order (dCons (dVar 1) dNil))) (endI x 5 Q) [some (.nw x 5 []), some (.sh d)]
  refine in_order_ok hd h hl ?_
  rw [oP_D]
  exact ⟨⟨rfl, rfl⟩, ⟨rfl, rfl⟩, [lD (Nn u)], rfl, by simp, hq⟩
theorem initO_ok {u : List Pc} {Q : List D → Prop} (h : Okl u) (hl : u.length ≤ 100000) (hq : Q [lD (Nn u)]) : So_Heap___init__ (u.map pcD) Q := by
  intro x p
  show to_Heap___init__ _ [some (.nw x 5 []), some (.ow (.ref p) (oP u))]
  simp only [to_Heap___init__, ↓zHd0, zHp0, ↓zGd0, ↓zGd1, ↓zGd2, ↓zGd3, ↓zGd4, zGp0, startD, ↓List.map_cons, ↓List.map_nil, ↓List.length_cons, ↓List.length_nil, Nat.reduceAdd, Nat.reduceSub, Nat.sub_self, List.replicate, ↓List.cons_append, ↓List.nil_append, List.append_nil, ↓List.getElem?_cons_zero, ↓List.getElem?_cons_succ, ↓List.set_cons_zero, ↓List.set_cons_succ, wipeD, Bool.not_true, Bool.not_false, decide_true, decide_false, beq_self_eq_true, true_and, and_true, Nat.reduceLeDiff, toDs, toDk, toDs_sh, ↓zS_ii, ↓zS_bi, ↓zS_bb, ↓zS_tt, ↓zS_ll, ↓zS_lt, ↓zS_lk, ↓zS_cut3, ↓zS_r3, ↓zS_r3D, ↓zS_nonI, ↓zS_nonN]
  refine are_ok (sqd_l u) h hl ?_
  simp only [notB_eq, ↓zHd0, zHp0, ↓zGd0, ↓zGd1, ↓zGd2, ↓zGd3, ↓zGd4, zGp0, startD, ↓List.map_cons, ↓List.map_nil, ↓List.length_cons, ↓List.length_nil, Nat.reduceAdd, Nat.reduceSub, Nat.sub_self, List.replicate, ↓List.cons_append, ↓List.nil_append, List.append_nil, ↓List.getElem?_cons_zero, ↓List.getElem?_cons_succ, ↓List.set_cons_zero, ↓List.set_cons_succ, wipeD, Bool.not_true, Bool.not_false, decide_true, decide_false, beq_self_eq_true, true_and, and_true, Nat.reduceLeDiff, toDs, toDk, toDs_sh, ↓zS_ii, ↓zS_bi, ↓zS_bb, ↓zS_tt, ↓zS_ll, ↓zS_lt, ↓zS_lk, ↓zS_cut3, ↓zS_r3, ↓zS_r3D, ↓zS_nonI, ↓zS_nonN]
  show dSelf 0 0 5 (dFz (oBorL 1 (oCall S_in_order (dCons (dVar 1) dNil)))) (endIO x 5 p (u.map pcD) Q) [some (.nw x 5 []), some (.ow (.ref p) (oP u))]
  show S_in_order [(oP u).toD] fun o2 => olPl o2 = true ∧ _
  rw [oP_D]
  refine in_order_ok (sqd_l u) h hl ⟨olPl_P _, ?_⟩
  rw [oP_D]
  exact ⟨⟨rfl, rfl⟩, ⟨⟨rfl, rfl⟩, [lD (Nn u)], rfl, by simp, hq⟩, rfl⟩
theorem make_ok {d : D} {u : List Pc} {Q : D → Prop} (hd : Sqd d u) (h : Okl u) (hl : u.length ≤ 100000) (hq : Q (hpD (Nn u))) : S_Heap___init__ [d] fun fs => Q (.obj 5 fs) := init_ok hd h hl hq
theorem makeO_ok {u : List Pc} {Q : D → Prop} (h : Okl u) (hl : u.length ≤ 100000) (hq : Q (hpD (Nn u))) : So_Heap___init__ (u.map pcD) fun fs => Q (.obj 5 fs) := initO_ok h hl hq
theorem make0_ok {Q : D → Prop} (hq : Q (hpD [])) : (dflI S_Heap___init__) [] fun fs => Q (.obj 5 fs) := make_ok sqd_k (fun _ z => nomatch z) (Nat.zero_le _) (by rw [Nn_nil.mpr (Qq.refl [])]; exact hq)
theorem Nn_okl {u : List Pc} (h : Okl u) : Okl (Nn u) := fun x hx => Fw_okl h x ((Cm_mem (cm_nf _) x).mp hx)
theorem Nn_le (u : List Pc) : (Nn u).length ≤ u.length := by rw [Nn_len]; exact (Fw_len u).1
section
variable {A : List Pc} {Q : D → Prop}
theorem hlen_ok (hq : Q (.int A.length)) : S_Heap___len__ [hpD A] Q := by
  refine ⟨rfl, ?_⟩
  unfold hpD lD
  simp only [t_Heap___len__, ↓zHd0, zHp0, ↓zGd0, ↓zGd1, ↓zGd2, ↓zGd3, ↓zGd4, zGp0, startD, ↓List.map_cons, ↓List.map_nil, ↓List.length_cons, ↓List.length_nil, Nat.reduceAdd, Nat.reduceSub, Nat.sub_self, List.replicate, ↓List.cons_append, ↓List.nil_append, List.append_nil, ↓List.getElem?_cons_zero, ↓List.getElem?_cons_succ, ↓List.set_cons_zero, ↓List.set_cons_succ, wipeD, Bool.not_true, Bool.not_false, decide_true, decide_false, beq_self_eq_true, true_and, and_true, Nat.reduceLeDiff, toDs, toDk, toDs_sh, ↓zS_ii, ↓zS_bi, ↓zS_bb, ↓zS_tt, ↓zS_ll, ↓zS_lt, ↓zS_lk, ↓zS_cut3, ↓zS_r3, ↓zS_r3D, ↓zS_nonI, ↓zS_nonN]
  rw [List.length_map]
  exact hq
end
def insG {α : Type} [DecidableEq α] (xs : List α) (y : α) : List α := if y ∈ xs then xs else xs ++ [y]
theorem place_map {α : Type} [DecidableEq α] {β : Type} {k : α → D} (hk : ∀ a b, keqD (k a) (k b) = decide (a = b)) {v : α → β} {u : α} (w : β) : ∀ {xs : List α}, xs.Nodup → u ∈ xs → ∃ n, idxK (xs.map fun a => (k a, v a)) (k u) = some n ∧ (xs.map fun a => (k a, v a))[n]? = some (k u, v u) ∧
    (xs.map fun a => (k a, v a)).set n (k u, w) = xs.map fun a => (k a, if a = u then w else v a)
  | [], _, h => nomatch h
  | x :: xs, hn, h => by
    have hp := List.nodup_cons.mp hn
    rw [List.map_cons, idx_cons, hk]
    by_cases e : x = u
    · subst e
      refine ⟨0, by rw [decide_eq_true rfl, if_pos rfl], rfl, ?_⟩
      rw [List.set_cons_zero, List.map_cons, if_pos rfl]
      congr 1
      refine List.map_congr_left fun a ha => ?_
      rw [if_neg (show ¬ a = x from fun z => hp.1 (z ▸ ha))]
    · obtain ⟨n, h1, h2, h3⟩ := place_map (v := v) hk w hp.2 ((List.mem_cons.mp h).resolve_left fun z => e z.symm)
      refine ⟨n + 1, by rw [decide_eq_false e, if_neg Bool.false_ne_true, h1]; rfl, h2, ?_⟩
      rw [List.set_cons_succ, h3, List.map_cons, if_neg e]
theorem toDk_map {α : Type} {k : α → D} {v : α → OD} : ∀ xs : List α, toDk (xs.map fun a => (k a, v a)) = xs.map fun a => (k a, (v a).toD)
  | [] => by rw [List.map_nil, List.map_nil, toDk]
  | x :: xs => by rw [List.map_cons, List.map_cons, toDk, toDk_map xs]
theorem insG_mem {α : Type} [DecidableEq α] {xs : List α} {y z : α} : z ∈ insG xs y ↔ z ∈ xs ∨ z = y := by
  unfold insG
  by_cases h : y ∈ xs
  · rw [if_pos h]
    exact ⟨.inl, fun q => q.elim id fun e => e ▸ h⟩
  · rw [if_neg h, List.mem_append, List.mem_singleton]
theorem insG_nd {α : Type} [DecidableEq α] {xs : List α} {y : α} (h : xs.Nodup) : (insG xs y).Nodup := by
  unfold insG
  by_cases z : y ∈ xs
  · rw [if_pos z]; exact h
  · rw [if_neg z]
    refine List.nodup_append.mpr ⟨h, List.nodup_cons.mpr ⟨by simp, List.nodup_nil⟩, fun a ha b hb e => ?_⟩
    rw [List.mem_singleton.mp hb] at e
    exact z (e ▸ ha)
theorem key_int (a b : Int) : keqD (.int a) (.int b) = decide (a = b) := by
  rw [show (D.int a) = embK (.inl a) from rfl, show (D.int b) = embK (.inl b) from rfl, keqD_K, decide_eq_decide]
  constructor
  · intro h
    injection h with h
  · intro h; rw [h]
def atV (s : List Lp) (k : Int) : List Pc := (s.filter fun z => decide (z.1 = k)).map (·.2)
abbrev odP (u : List Pc) : OD := .lst ((u.map pcD).map .sh)
abbrev lvK (l : List Int) (s : List Lp) : List (D × OD) := l.map fun k => (D.int k, odP (atV s k))
theorem atV_snoc {s : List Lp} {z : Lp} {k : Int} : atV (s ++ [z]) k = if k = z.1 then atV s k ++ [z.2] else atV s k := by
  unfold atV
  rw [List.filter_append, List.map_append]
  by_cases h : k = z.1
  · rw [if_pos h, List.filter_cons, decide_eq_true h.symm]; rfl
  · rw [if_neg h, List.filter_cons, decide_eq_false (fun z => h z.symm)]
    exact List.append_nil _
theorem atV_len (s : List Lp) (k : Int) : (atV s k).length ≤ s.length := by
  unfold atV
  rw [List.length_map]
  exact List.length_filter_le _ _
structure Lk (l : List Int) (s : List Lp) : Prop where
  nd : l.Nodup
  mem : ∀ k, k ∈ l ↔ ∃ y ∈ s, y.1 = k
theorem Lk.snoc {l : List Int} {s : List Lp} (h : Lk l s) (x : Lp) : Lk (insG l x.1) (s ++ [x]) := ⟨insG_nd h.nd, fun k => by
  rw [insG_mem, h.mem k]
  constructor
  · rintro (⟨y, hy, h⟩ | h)
    · exact ⟨y, List.mem_append_left _ hy, h⟩
    · exact ⟨x, List.mem_append_right _ List.mem_cons_self, h.symm⟩
  · rintro ⟨y, hy, h⟩
    rcases List.mem_append.mp hy with hy | hy
    · exact .inl ⟨y, hy, h⟩
    · rw [List.mem_singleton.mp hy] at h
      exact .inr h.symm⟩
theorem Lk.len {l : List Int} {s : List Lp} (h : Lk l s) : l.length ≤ s.length := by
  have := List.Nodup.length_le_of_subset h.nd (fun k hk => by
    obtain ⟨y, hy, e⟩ := (h.mem k).mp hk
    exact List.mem_map.mpr ⟨y, hy, e⟩ : l ⊆ s.map (·.1))
  rwa [List.length_map] at this
theorem dl_1 {W : DEnds} {d : D} {v : V} {z : Lp} {l : List Int} {s : List Lp} (hL : Lk l s) (hs : s.length < 100000)
    (hN : W.nx [some (.sh d), some (.ow v (.dic false (lvK (insG l z.1) (s ++ [z])))), some (.sh (.int z.1)), some (.sh (pcD z.2))]) :
    b_Heap_levels_1 W [some (.sh d), some (.ow v (.dic false (lvK l s))), some (.sh (.int z.1)), some (.sh (pcD z.2))] := by
  have hl := hL.len
  simp only [b_Heap_levels_1, ↓zHd0, zHp0, ↓zGd0, ↓zGd1, ↓zGd2, ↓zGd3, ↓zGd4, zGp0, startD, ↓List.map_cons, ↓List.map_nil, ↓List.length_cons, ↓List.length_nil, Nat.reduceAdd, Nat.reduceSub, Nat.sub_self, List.replicate, ↓List.cons_append, ↓List.nil_append, List.append_nil, ↓List.getElem?_cons_zero, ↓List.getElem?_cons_succ, ↓List.set_cons_zero, ↓List.set_cons_succ, wipeD, Bool.not_true, Bool.not_false, decide_true, decide_false, beq_self_eq_true, true_and, and_true, Nat.reduceLeDiff, toDs, toDk, toDs_sh, ↓zS_ii, ↓zS_bi, ↓zS_bb, ↓zS_tt, ↓zS_ll, ↓zS_lt, ↓zS_lk, ↓zS_cut3, ↓zS_r3, ↓zS_r3D, ↓zS_nonI, ↓zS_nonN]
  refine ⟨⟨rfl, by rw [List.length_map, sizeLine_eq]; omega⟩, ?_⟩
  by_cases c : z.1 ∈ l
  · obtain ⟨k, k1, k2, k3⟩ := place_map key_int (v := fun k => odP (atV s k)) (u := z.1) (odP (atV (s ++ [z]) z.1)) hL.nd c
    have es : sd1 (lvK l s) (.int z.1) = (lvK l s, k) := by
      unfold sd1
      have k1 : idxK (lvK l s) (.int z.1) = some k := k1
      rw [k1]
    rw [es, z_sdL k2]
    simp only [↓zHd0, zHp0, ↓zGd0, ↓zGd1, ↓zGd2, ↓zGd3, ↓zGd4, zGp0, startD, ↓List.map_cons, ↓List.map_nil, ↓List.length_cons, ↓List.length_nil, Nat.reduceAdd, Nat.reduceSub, Nat.sub_self, List.replicate, ↓List.cons_append, ↓List.nil_append, List.append_nil, ↓List.getElem?_cons_zero, ↓List.getElem?_cons_succ, ↓List.set_cons_zero, ↓List.set_cons_succ, wipeD, Bool.not_true, Bool.not_false, decide_true, decide_false, beq_self_eq_true, true_and, and_true, Nat.reduceLeDiff, toDs, toDk, toDs_sh, ↓zS_ii, ↓zS_bi, ↓zS_bb, ↓zS_tt, ↓zS_ll, ↓zS_lt, ↓zS_lk, ↓zS_cut3, ↓zS_r3, ↓zS_r3D, ↓zS_nonI, ↓zS_nonN]
    have ea : atV (s ++ [z]) z.1 = atV s z.1 ++ [z.2] := by rw [atV_snoc, if_pos rfl]
    have eb : ((atV s z.1).map pcD).map OD.sh ++ [OD.sh (pcD z.2)] = ((atV (s ++ [z]) z.1).map pcD).map OD.sh := by rw [ea, List.map_append, List.map_append]; rfl
    have el := atV_len s z.1
    refine ⟨by rw [List.length_map, List.length_map, sizeLine_eq]; omega, ?_⟩
    rw [eb]
    have ef : (lvK l s).set k (D.int z.1, odP (atV (s ++ [z]) z.1)) = lvK (insG l z.1) (s ++ [z]) := by
      refine Eq.trans k3 ?_
      rw [show insG l z.1 = l from if_pos c]
      refine List.map_congr_left fun a _ => ?_
      by_cases h : a = z.1
      · rw [if_pos h, h]
      · rw [if_neg h, atV_snoc, if_neg h]
    rw [ef]
    exact hN
  · have ni : ∀ q : List Int, z.1 ∉ q → idxK (q.map fun k => (D.int k, odP (atV s k))) (D.int z.1) = none := fun q => by
      induction q with
      | nil => exact fun _ => rfl
      | cons a q ih =>
        intro h
        rw [List.map_cons, idx_cons, key_int, decide_eq_false (show ¬ a = z.1 from fun z => h (z ▸ List.mem_cons_self)), if_neg Bool.false_ne_true, ih fun z => h (List.mem_cons_of_mem _ z)]
        rfl
    have es : sd1 (lvK l s) (.int z.1) = (lvK l s ++ [(D.int z.1, .lst [])], (lvK l s).length) := by
      unfold sd1
      have k1 : idxK (lvK l s) (.int z.1) = none := ni l c
      rw [k1]
    have hz : (lvK l s ++ [(D.int z.1, OD.lst [])])[(lvK l s).length]? = some (D.int z.1, .lst []) := by rw [List.getElem?_append_right (Nat.le_refl _), Nat.sub_self]; rfl
    rw [es, z_sdL hz]
    simp only [↓zHd0, zHp0, ↓zGd0, ↓zGd1, ↓zGd2, ↓zGd3, ↓zGd4, zGp0, startD, ↓List.map_cons, ↓List.map_nil, ↓List.length_cons, ↓List.length_nil, Nat.reduceAdd, Nat.reduceSub, Nat.sub_self, List.replicate, ↓List.cons_append, ↓List.nil_append, List.append_nil, ↓List.getElem?_cons_zero, ↓List.getElem?_cons_succ, ↓List.set_cons_zero, ↓List.set_cons_succ, wipeD, Bool.not_true, Bool.not_false, decide_true, decide_false, beq_self_eq_true, true_and, and_true, Nat.reduceLeDiff, toDs, toDk, toDs_sh, ↓zS_ii, ↓zS_bi, ↓zS_bb, ↓zS_tt, ↓zS_ll, ↓zS_lt, ↓zS_lk, ↓zS_cut3, ↓zS_r3, ↓zS_r3D, ↓zS_nonI, ↓zS_nonN]
    refine ⟨by rw [sizeLine_eq]; show 0 < _; decide, ?_⟩
    have em : atV s z.1 = [] := by
      unfold atV
      rw [List.filter_eq_nil_iff.mpr fun y hy h => c ((hL.mem _).mpr ⟨y, hy, of_decide_eq_true h⟩)]
      rfl
    have ef : (lvK l s ++ [(D.int z.1, OD.lst [])]).set (lvK l s).length (D.int z.1, OD.lst [OD.sh (pcD z.2)]) = lvK (insG l z.1) (s ++ [z]) := by
      rw [List.set_append_right _ _ (Nat.le_refl _), Nat.sub_self, show insG l z.1 = l ++ [z.1] from if_neg c]
      show lvK l s ++ [(D.int z.1, OD.lst [OD.sh (pcD z.2)])] = (l ++ [z.1]).map fun k => (D.int k, odP (atV (s ++ [z]) k))
      rw [List.map_append]
      congr 1
      · refine List.map_congr_left fun a ha => ?_
        rw [atV_snoc, if_neg (show ¬ a = z.1 from fun z => c (z ▸ ha))]
      · rw [List.map_cons, List.map_nil, atV_snoc, if_pos rfl, em]
        rfl
    rw [ef]; exact hN
theorem dl_2 {W : DEnds} {d : D} {v : V} : ∀ (r s : List Lp) (l : List Int) (o2 o3 : Option SD), Lk l s → s.length + r.length ≤ 100000 →
    (∀ l o2 o3, Lk l (s ++ r) → W.nx [some (.sh d), some (.ow v (.dic false (lvK l (s ++ r)))), o2, o3]) →
    forD (gT 2 (gsCons (gN 2) (gsCons (gN 3) gsNil))) b_Heap_levels_1 W (r.map lpD) [some (.sh d), some (.ow v (.dic false (lvK l s))), o2, o3]
  | [], s, l, o2, o3, hL, _, hN => by
    rw [List.append_nil] at hN
    rw [List.map_nil, forD_n]
    exact hN l o2 o3 hL
  | z :: r, s, l, o2, o3, hL, hz, hN => by
    rw [List.length_cons] at hz
    rw [List.append_cons] at hN
    rw [List.map_cons, forD_c]
    have ih := fun l o2 o3 hL' => dl_2 (W := W) (v := v) (d := d) r (s ++ [z]) l o2 o3 hL' (by rw [List.length_append, List.length_singleton]; omega) hN
    generalize forD (gT 2 (gsCons (gN 2) (gsCons (gN 3) gsNil))) b_Heap_levels_1 W (r.map lpD) = F at ih ⊢
    unfold lpD
    simp only [↓zHd0, zHp0, ↓zGd0, ↓zGd1, ↓zGd2, ↓zGd3, ↓zGd4, zGp0, startD, ↓List.map_cons, ↓List.map_nil, ↓List.length_cons, ↓List.length_nil, Nat.reduceAdd, Nat.reduceSub, Nat.sub_self, List.replicate, ↓List.cons_append, ↓List.nil_append, List.append_nil, ↓List.getElem?_cons_zero, ↓List.getElem?_cons_succ, ↓List.set_cons_zero, ↓List.set_cons_succ, wipeD, Bool.not_true, Bool.not_false, decide_true, decide_false, beq_self_eq_true, true_and, and_true, Nat.reduceLeDiff, toDs, toDk, toDs_sh, ↓zS_ii, ↓zS_bi, ↓zS_bb, ↓zS_tt, ↓zS_ll, ↓zS_lt, ↓zS_lk, ↓zS_cut3, ↓zS_r3, ↓zS_r3D, ↓zS_nonI, ↓zS_nonN]
    exact dl_1 (z := z) hL (by omega) (ih _ _ _ (hL.snoc z))
theorem srt_ints {l : List Int} (h : ∀ k ∈ l, 0 ≤ k ∧ k ≤ 100000) : SrtOk (l.map D.int) := by
  refine ⟨fun d hd => ?_, ?_, ?_⟩
  · obtain ⟨a, ha, rfl⟩ := List.mem_map.mp hd
    have := int_fine (h a ha).1 (Int.le_trans (h a ha).2 (by decide))
    unfold DL.plain
    rw [this]
    rfl
  · rw [List.map_map]
    exact PySem.W.AllAlike.of fun a b => by rfl
  · rw [List.map_map]
    exact PySem.W.Sortable.others fun a => ⟨fun z => by simp [D.py] at z, fun xs z => by simp [D.py] at z⟩
def leI (a b : Int) : Bool := decide (a ≤ b)
theorem sort_i (l : List Int) : sortD (l.map D.int) = (l.mergeSort leI).map D.int := sort_map D.int leI fun a _ b _ => dle_int a b
abbrev levS (A : List Pc) : List Lp := (lev [] A).mergeSort leL
theorem take_ok {n : Int} {Q : D → Prop} (h0 : 0 < n) (h1 : n ≤ 1000) (hq : ∀ v : Int, 0 ≤ v → v < n → Q (.int v)) : S__law_take [.bag, .int n] Q := by
  unfold S__law_take
  exact ⟨⟨h0, small_log h0 (by omega)⟩, hq⟩
theorem lpick_ok {xs : List D} {Q : D → Prop} (h0 : xs ≠ []) (h1 : xs.length ≤ 1000) (hq : ∀ x ∈ xs, Q x) : S__law_pick [.bag, .lst xs] Q := by
  refine ⟨rfl, ?_⟩
  have h0 : 0 < xs.length := List.length_pos_iff.mpr h0
  simp only [t__law_pick, ↓zHd0, zHp0, ↓zGd0, ↓zGd1, ↓zGd2, ↓zGd3, ↓zGd4, zGp0, startD, ↓List.map_cons, ↓List.map_nil, ↓List.length_cons, ↓List.length_nil, Nat.reduceAdd, Nat.reduceSub, Nat.sub_self, List.replicate, ↓List.cons_append, ↓List.nil_append, List.append_nil, ↓List.getElem?_cons_zero, ↓List.getElem?_cons_succ, ↓List.set_cons_zero, ↓List.set_cons_succ, wipeD, Bool.not_true, Bool.not_false, decide_true, decide_false, beq_self_eq_true, true_and, and_true, Nat.reduceLeDiff, toDs, toDk, toDs_sh, ↓zS_ii, ↓zS_bi, ↓zS_bb, ↓zS_tt, ↓zS_ll, ↓zS_lt, ↓zS_lk, ↓zS_cut3, ↓zS_r3, ↓zS_r3D, ↓zS_nonI, ↓zS_nonN]
  refine take_ok (by omega) (by omega) fun v v0 v1 => ?_
  simp only [↓zHd0, zHp0, ↓zGd0, ↓zGd1, ↓zGd2, ↓zGd3, ↓zGd4, zGp0, startD, ↓List.map_cons, ↓List.map_nil, ↓List.length_cons, ↓List.length_nil, Nat.reduceAdd, Nat.reduceSub, Nat.sub_self, List.replicate, ↓List.cons_append, ↓List.nil_append, List.append_nil, ↓List.getElem?_cons_zero, ↓List.getElem?_cons_succ, ↓List.set_cons_zero, ↓List.set_cons_succ, wipeD, Bool.not_true, Bool.not_false, decide_true, decide_false, beq_self_eq_true, true_and, and_true, Nat.reduceLeDiff, toDs, toDk, toDs_sh, ↓zS_ii, ↓zS_bi, ↓zS_bb, ↓zS_tt, ↓zS_ll, ↓zS_lt, ↓zS_lk, ↓zS_cut3, ↓zS_r3, ↓zS_r3D, ↓zS_nonI, ↓zS_nonN]
  rw [atI_pos v0 v1]
  exact hq _ (List.getElem_mem _)
theorem ltouch_ok {a b : Pc} {Q : D → Prop} (hq : Q (.bl (tch a b))) : S__law_touch [pcD a, pcD b] Q := by
  refine ⟨rfl, ?_⟩
  unfold pcD
  simp only [t__law_touch, ↓zHd0, zHp0, ↓zGd0, ↓zGd1, ↓zGd2, ↓zGd3, ↓zGd4, zGp0, startD, ↓List.map_cons, ↓List.map_nil, ↓List.length_cons, ↓List.length_nil, Nat.reduceAdd, Nat.reduceSub, Nat.sub_self, List.replicate, ↓List.cons_append, ↓List.nil_append, List.append_nil, ↓List.getElem?_cons_zero, ↓List.getElem?_cons_succ, ↓List.set_cons_zero, ↓List.set_cons_succ, wipeD, Bool.not_true, Bool.not_false, decide_true, decide_false, beq_self_eq_true, true_and, and_true, Nat.reduceLeDiff, toDs, toDk, toDs_sh, ↓zS_ii, ↓zS_bi, ↓zS_bb, ↓zS_tt, ↓zS_ll, ↓zS_lt, ↓zS_lk, ↓zS_cut3, ↓zS_r3, ↓zS_r3D, ↓zS_nonI, ↓zS_nonN]
  unfold tch at hq
  by_cases h : a.1 = b.1
  · rw [decide_eq_true h] at hq ⊢
    simp only [↓zHd0, zHp0, ↓zGd0, ↓zGd1, ↓zGd2, ↓zGd3, ↓zGd4, zGp0, startD, ↓List.map_cons, ↓List.map_nil, ↓List.length_cons, ↓List.length_nil, Nat.reduceAdd, Nat.reduceSub, Nat.sub_self, List.replicate, ↓List.cons_append, ↓List.nil_append, List.append_nil, ↓List.getElem?_cons_zero, ↓List.getElem?_cons_succ, ↓List.set_cons_zero, ↓List.set_cons_succ, wipeD, Bool.not_true, Bool.not_false, decide_true, decide_false, beq_self_eq_true, true_and, and_true, Nat.reduceLeDiff, toDs, toDk, toDs_sh, ↓zS_ii, ↓zS_bi, ↓zS_bb, ↓zS_tt, ↓zS_ll, ↓zS_lt, ↓zS_lk, ↓zS_cut3, ↓zS_r3, ↓zS_r3D, ↓zS_nonI, ↓zS_nonN]
    exact hq
  · rw [decide_eq_false h] at hq ⊢
    simp only [↓zHd0, zHp0, ↓zGd0, ↓zGd1, ↓zGd2, ↓zGd3, ↓zGd4, zGp0, startD, ↓List.map_cons, ↓List.map_nil, ↓List.length_cons, ↓List.length_nil, Nat.reduceAdd, Nat.reduceSub, Nat.sub_self, List.replicate, ↓List.cons_append, ↓List.nil_append, List.append_nil, ↓List.getElem?_cons_zero, ↓List.getElem?_cons_succ, ↓List.set_cons_zero, ↓List.set_cons_succ, wipeD, Bool.not_true, Bool.not_false, decide_true, decide_false, beq_self_eq_true, true_and, and_true, Nat.reduceLeDiff, toDs, toDk, toDs_sh, ↓zS_ii, ↓zS_bi, ↓zS_bb, ↓zS_tt, ↓zS_ll, ↓zS_lt, ↓zS_lk, ↓zS_cut3, ↓zS_r3, ↓zS_r3D, ↓zS_nonI, ↓zS_nonN]
    exact hq
theorem lcontr_ok {p : Pc} {Q : D → Prop} (hq : Q (pcD (ctr p))) : S__law_contrary [pcD p] Q := by
  refine ⟨rfl, ?_⟩
  have e1 : ∀ Q : D → Prop, oSl (pcD p) none (some 3) Q = Q (.tup [.int p.1, .int p.2.1, .bl p.2.2.1]) := fun Q => by
    unfold pcD
    simp only [↓zHd0, zHp0, ↓zGd0, ↓zGd1, ↓zGd2, ↓zGd3, ↓zGd4, zGp0, startD, ↓List.map_cons, ↓List.map_nil, ↓List.length_cons, ↓List.length_nil, Nat.reduceAdd, Nat.reduceSub, Nat.sub_self, List.replicate, ↓List.cons_append, ↓List.nil_append, List.append_nil, ↓List.getElem?_cons_zero, ↓List.getElem?_cons_succ, ↓List.set_cons_zero, ↓List.set_cons_succ, wipeD, Bool.not_true, Bool.not_false, decide_true, decide_false, beq_self_eq_true, true_and, and_true, Nat.reduceLeDiff, toDs, toDk, toDs_sh, ↓zS_ii, ↓zS_bi, ↓zS_bb, ↓zS_tt, ↓zS_ll, ↓zS_lt, ↓zS_lk, ↓zS_cut3, ↓zS_r3, ↓zS_r3D, ↓zS_nonI, ↓zS_nonN]
  have e2 : ∀ Q : D → Prop, oIx (pcD p) (.int 3) Q = Q (.bl p.2.2.2) := fun Q => by
    unfold pcD
    simp only [↓zHd0, zHp0, ↓zGd0, ↓zGd1, ↓zGd2, ↓zGd3, ↓zGd4, zGp0, startD, ↓List.map_cons, ↓List.map_nil, ↓List.length_cons, ↓List.length_nil, Nat.reduceAdd, Nat.reduceSub, Nat.sub_self, List.replicate, ↓List.cons_append, ↓List.nil_append, List.append_nil, ↓List.getElem?_cons_zero, ↓List.getElem?_cons_succ, ↓List.set_cons_zero, ↓List.set_cons_succ, wipeD, Bool.not_true, Bool.not_false, decide_true, decide_false, beq_self_eq_true, true_and, and_true, Nat.reduceLeDiff, toDs, toDk, toDs_sh, ↓zS_ii, ↓zS_bi, ↓zS_bb, ↓zS_tt, ↓zS_ll, ↓zS_lt, ↓zS_lk, ↓zS_cut3, ↓zS_r3, ↓zS_r3D, ↓zS_nonI, ↓zS_nonN]
  simp only [t__law_contrary, ↓zHd0, zHp0, ↓zGd0, ↓zGd1, ↓zGd2, ↓zGd3, ↓zGd4, zGp0, startD, ↓List.map_cons, ↓List.map_nil, ↓List.length_cons, ↓List.length_nil, Nat.reduceAdd, Nat.reduceSub, Nat.sub_self, List.replicate, ↓List.cons_append, ↓List.nil_append, List.append_nil, ↓List.getElem?_cons_zero, ↓List.getElem?_cons_succ, ↓List.set_cons_zero, ↓List.set_cons_succ, wipeD, Bool.not_true, Bool.not_false, decide_true, decide_false, beq_self_eq_true, true_and, and_true, Nat.reduceLeDiff, toDs, toDk, toDs_sh, ↓zS_ii, ↓zS_bi, ↓zS_bb, ↓zS_tt, ↓zS_ll, ↓zS_lt, ↓zS_lk, ↓zS_cut3, ↓zS_r3, ↓zS_r3D, ↓zS_nonI, ↓zS_nonN]
  rw [e1, e2]
  simp only [↓zHd0, zHp0, ↓zGd0, ↓zGd1, ↓zGd2, ↓zGd3, ↓zGd4, zGp0, startD, ↓List.map_cons, ↓List.map_nil, ↓List.length_cons, ↓List.length_nil, Nat.reduceAdd, Nat.reduceSub, Nat.sub_self, List.replicate, ↓List.cons_append, ↓List.nil_append, List.append_nil, ↓List.getElem?_cons_zero, ↓List.getElem?_cons_succ, ↓List.set_cons_zero, ↓List.set_cons_succ, wipeD, Bool.not_true, Bool.not_false, decide_true, decide_false, beq_self_eq_true, true_and, and_true, Nat.reduceLeDiff, toDs, toDk, toDs_sh, ↓zS_ii, ↓zS_bi, ↓zS_bb, ↓zS_tt, ↓zS_ll, ↓zS_lt, ↓zS_lk, ↓zS_cut3, ↓zS_r3, ↓zS_r3D, ↓zS_nonI, ↓zS_nonN]
  rw [notB_eq]
  exact ⟨⟨by simp, by rw [sizeLine_eq]; decide⟩, hq⟩
structure Oks (p : Pc) : Prop where
  i0 : 0 ≤ p.1
  i1 : p.1 ≤ 1000
  j0 : 0 ≤ p.2.1
  j1 : p.2.1 ≤ 1000
def Okls (u : List Pc) : Prop := ∀ p ∈ u, Oks p
theorem Oks.ok {p : Pc} (h : Oks p) : Okp p := ⟨h.i0, int_fine h.i0 (Int.le_trans h.i1 (by decide)), h.j0, int_fine h.j0 (Int.le_trans h.j1 (by decide))⟩
theorem Okls.ok {u : List Pc} (h : Okls u) : Okl u := fun p hp => (h p hp).ok
theorem Oks.ctr {p : Pc} (h : Oks p) : Oks (My.ctr p) := ⟨h.i0, h.i1, h.j0, h.j1⟩
theorem okls_app {u v : List Pc} (h : Okls u) (g : Okls v) : Okls (u ++ v) := fun x hx => (List.mem_append.mp hx).elim (h x) (g x)
theorem lpiece_ok {n m : Int} {Q : D → Prop} (n0 : 0 < n) (n1 : n ≤ 1000) (m0 : 0 < m) (m1 : m ≤ 1000) (hq : ∀ p, Oks p → Q (pcD p)) : S__law_piece [.bag, .int n, .int m] Q := by
  refine ⟨rfl, ?_⟩
  simp only [t__law_piece, ↓zHd0, zHp0, ↓zGd0, ↓zGd1, ↓zGd2, ↓zGd3, ↓zGd4, zGp0, startD, ↓List.map_cons, ↓List.map_nil, ↓List.length_cons, ↓List.length_nil, Nat.reduceAdd, Nat.reduceSub, Nat.sub_self, List.replicate, ↓List.cons_append, ↓List.nil_append, List.append_nil, ↓List.getElem?_cons_zero, ↓List.getElem?_cons_succ, ↓List.set_cons_zero, ↓List.set_cons_succ, wipeD, Bool.not_true, Bool.not_false, decide_true, decide_false, beq_self_eq_true, true_and, and_true, Nat.reduceLeDiff, toDs, toDk, toDs_sh, ↓zS_ii, ↓zS_bi, ↓zS_bb, ↓zS_tt, ↓zS_ll, ↓zS_lt, ↓zS_lk, ↓zS_cut3, ↓zS_r3, ↓zS_r3D, ↓zS_nonI, ↓zS_nonN]
  refine take_ok n0 n1 fun i i0 i1 => take_ok m0 m1 fun j j0 j1 => ?_
  refine take_ok (by decide) (by decide) fun a a0 a1 => ?_
  simp only [↓zHd0, zHp0, ↓zGd0, ↓zGd1, ↓zGd2, ↓zGd3, ↓zGd4, zGp0, startD, ↓List.map_cons, ↓List.map_nil, ↓List.length_cons, ↓List.length_nil, Nat.reduceAdd, Nat.reduceSub, Nat.sub_self, List.replicate, ↓List.cons_append, ↓List.nil_append, List.append_nil, ↓List.getElem?_cons_zero, ↓List.getElem?_cons_succ, ↓List.set_cons_zero, ↓List.set_cons_succ, wipeD, Bool.not_true, Bool.not_false, decide_true, decide_false, beq_self_eq_true, true_and, and_true, Nat.reduceLeDiff, toDs, toDk, toDs_sh, ↓zS_ii, ↓zS_bi, ↓zS_bb, ↓zS_tt, ↓zS_ll, ↓zS_lt, ↓zS_lk, ↓zS_cut3, ↓zS_r3, ↓zS_r3D, ↓zS_nonI, ↓zS_nonN]
  refine take_ok (by decide) (by decide) fun b b0 b1 => ?_
  simp only [↓zHd0, zHp0, ↓zGd0, ↓zGd1, ↓zGd2, ↓zGd3, ↓zGd4, zGp0, startD, ↓List.map_cons, ↓List.map_nil, ↓List.length_cons, ↓List.length_nil, Nat.reduceAdd, Nat.reduceSub, Nat.sub_self, List.replicate, ↓List.cons_append, ↓List.nil_append, List.append_nil, ↓List.getElem?_cons_zero, ↓List.getElem?_cons_succ, ↓List.set_cons_zero, ↓List.set_cons_succ, wipeD, Bool.not_true, Bool.not_false, decide_true, decide_false, beq_self_eq_true, true_and, and_true, Nat.reduceLeDiff, toDs, toDk, toDs_sh, ↓zS_ii, ↓zS_bi, ↓zS_bb, ↓zS_tt, ↓zS_ll, ↓zS_lt, ↓zS_lk, ↓zS_cut3, ↓zS_r3, ↓zS_r3D, ↓zS_nonI, ↓zS_nonN]
  exact hq (i, j, decide (a = 0), decide (b > 0)) ⟨i0, by show i ≤ 1000; omega, j0, by show j ≤ 1000; omega⟩
theorem cut4 {xs : List D} (h : xs ≠ []) : cut xs (some (-4)) none ≠ [] ∧ (∀ x ∈ cut xs (some (-4)) none, x ∈ xs) ∧ (cut xs (some (-4)) none).length ≤ xs.length := by
  have h := List.length_pos_iff.mpr h
  have e : HT.sIx xs.length 0 (some (-4)) = (-4 + (xs.length : Int)).toNat := by
    show (if (-4 : Int) < 0 then ((-4 : Int) + (xs.length : Int)).toNat else min (-4 : Int).toNat xs.length) = _
    rw [if_pos (by decide)]
  have c : cut xs (some (-4)) none = xs.drop (-4 + (xs.length : Int)).toNat := by
    unfold cut
    rw [HT.sIx_none, e]
    exact List.take_of_length_le (by rw [List.length_drop]; omega)
  rw [c]
  refine ⟨fun z => ?_, fun x hx => List.mem_of_mem_drop hx, by rw [List.length_drop]; omega⟩
  have := congrArg List.length z
  rw [List.length_drop, List.length_nil] at this
  omega
abbrev shP (u : List Pc) : OD := .lst ((u.map pcD).map .sh)
theorem zS_ownO {v : V} {x : OD} {K : V → OD → Prop} : ownO (some (some (.ow v x))) K = K v x := propext Iff.rfl
theorem scT_pc {p : Pc} {Q : D → Prop} : scTD (pcD p) Q = Q (pcD p) := propext ⟨fun h => h.2, fun h => ⟨rfl, h⟩⟩
theorem dp_1 {W : DEnds} {v : V} {n m : Int} {u : List Pc} {o5 o6 : Option SD} (n0 : 0 < n) (n1 : n ≤ 3) (m0 : 0 < m) (m1 : m ≤ 3) (hu : Okls u) (hl : u.length ≤ 900)
    (hN : ∀ p o6, Oks p → W.nx [some (.sh .bag), some (.sh (.int 14)), some (.ow v (shP (u ++ [p]))), some (.sh (.int n)), some (.sh (.int m)), o5, o6]) :
    b__law_drawn_pieces_1 W [some (.sh .bag), some (.sh (.int 14)), some (.ow v (shP u)), some (.sh (.int n)), some (.sh (.int m)), o5, o6] := by
  have key : ∀ p, Oks p → dAppR (rVar 2) (dVar 6) W [some (.sh .bag), some (.sh (.int 14)), some (.ow v (shP u)), some (.sh (.int n)), some (.sh (.int m)), o5, some (.sh (pcD p))] := fun p hp => by
    simp only [↓zHd0, zHp0, ↓zGd0, ↓zGd1, ↓zGd2, ↓zGd3, ↓zGd4, zGp0, startD, ↓List.map_cons, ↓List.map_nil, ↓List.length_cons, ↓List.length_nil, Nat.reduceAdd, Nat.reduceSub, Nat.sub_self, List.replicate, ↓List.cons_append, ↓List.nil_append, List.append_nil, ↓List.getElem?_cons_zero, ↓List.getElem?_cons_succ, ↓List.set_cons_zero, ↓List.set_cons_succ, wipeD, Bool.not_true, Bool.not_false, decide_true, decide_false, beq_self_eq_true, true_and, and_true, Nat.reduceLeDiff, toDs, toDk, toDs_sh, ↓zS_ii, ↓zS_bi, ↓zS_bb, ↓zS_tt, ↓zS_ll, ↓zS_lt, ↓zS_lk, ↓zS_cut3, ↓zS_r3, ↓zS_r3D, ↓zS_nonI, ↓zS_nonN, ↓zS_ownO]
    refine ⟨by rw [List.length_map, List.length_map, sizeLine_eq]; omega, ?_⟩
    have e : (u.map pcD).map OD.sh ++ [OD.sh (pcD p)] = ((u ++ [p]).map pcD).map OD.sh := by rw [List.map_append, List.map_append]; rfl
    rw [e]
    exact hN p _ hp
  have et : OD.toD (shP u) = .lst (u.map pcD) := by rw [OD.toD, toDs_sh]
  have e4 : ∀ Q : D → Prop, oNe (.lst (u.map pcD)) (.lst []) Q = ((DL.plain (lD u) = true ∧ DL.plain (D.lst []) = true) ∧ Q (.bl (!eqb (lD u) (lD [])))) := fun Q => propext Iff.rfl
  simp only [b__law_drawn_pieces_1, ↓zHd0, zHp0, ↓zGd0, ↓zGd1, ↓zGd2, ↓zGd3, ↓zGd4, zGp0, startD, ↓List.map_cons, ↓List.map_nil, ↓List.length_cons, ↓List.length_nil, Nat.reduceAdd, Nat.reduceSub, Nat.sub_self, List.replicate, ↓List.cons_append, ↓List.nil_append, List.append_nil, ↓List.getElem?_cons_zero, ↓List.getElem?_cons_succ, ↓List.set_cons_zero, ↓List.set_cons_succ, wipeD, Bool.not_true, Bool.not_false, decide_true, decide_false, beq_self_eq_true, true_and, and_true, Nat.reduceLeDiff, toDs, toDk, toDs_sh, ↓zS_ii, ↓zS_bi, ↓zS_bb, ↓zS_tt, ↓zS_ll, ↓zS_lt, ↓zS_lk, ↓zS_cut3, ↓zS_r3, ↓zS_r3D, ↓zS_nonI, ↓zS_nonN, ↓zS_ownO]
  refine lpiece_ok n0 (by omega) m0 (by omega) fun p hp => ?_
  rw [show eqb (D.lst (u.map pcD)) (D.lst []) = decide (u = []) from lD_eqb u []]
  refine ⟨⟨lD_pl hu.ok, rfl⟩, ?_⟩
  by_cases hn : u = []
  · rw [decide_eq_true hn]
    simp only [↓zHd0, zHp0, ↓zGd0, ↓zGd1, ↓zGd2, ↓zGd3, ↓zGd4, zGp0, startD, ↓List.map_cons, ↓List.map_nil, ↓List.length_cons, ↓List.length_nil, Nat.reduceAdd, Nat.reduceSub, Nat.sub_self, List.replicate, ↓List.cons_append, ↓List.nil_append, List.append_nil, ↓List.getElem?_cons_zero, ↓List.getElem?_cons_succ, ↓List.set_cons_zero, ↓List.set_cons_succ, wipeD, Bool.not_true, Bool.not_false, decide_true, decide_false, beq_self_eq_true, true_and, and_true, Nat.reduceLeDiff, toDs, toDk, toDs_sh, ↓zS_ii, ↓zS_bi, ↓zS_bb, ↓zS_tt, ↓zS_ll, ↓zS_lt, ↓zS_lk, ↓zS_cut3, ↓zS_r3, ↓zS_r3D, ↓zS_nonI, ↓zS_nonN, ↓zS_ownO]
    exact key p hp
  rw [decide_eq_false hn]
  simp only [↓zHd0, zHp0, ↓zGd0, ↓zGd1, ↓zGd2, ↓zGd3, ↓zGd4, zGp0, startD, ↓List.map_cons, ↓List.map_nil, ↓List.length_cons, ↓List.length_nil, Nat.reduceAdd, Nat.reduceSub, Nat.sub_self, List.replicate, ↓List.cons_append, ↓List.nil_append, List.append_nil, ↓List.getElem?_cons_zero, ↓List.getElem?_cons_succ, ↓List.set_cons_zero, ↓List.set_cons_succ, wipeD, Bool.not_true, Bool.not_false, decide_true, decide_false, beq_self_eq_true, true_and, and_true, Nat.reduceLeDiff, toDs, toDk, toDs_sh, ↓zS_ii, ↓zS_bi, ↓zS_bb, ↓zS_tt, ↓zS_ll, ↓zS_lt, ↓zS_lk, ↓zS_cut3, ↓zS_r3, ↓zS_r3D, ↓zS_nonI, ↓zS_nonN, ↓zS_ownO]
  refine take_ok (by decide) (by decide) fun w w0 w1 => ?_
  simp only [↓zHd0, zHp0, ↓zGd0, ↓zGd1, ↓zGd2, ↓zGd3, ↓zGd4, zGp0, startD, ↓List.map_cons, ↓List.map_nil, ↓List.length_cons, ↓List.length_nil, Nat.reduceAdd, Nat.reduceSub, Nat.sub_self, List.replicate, ↓List.cons_append, ↓List.nil_append, List.append_nil, ↓List.getElem?_cons_zero, ↓List.getElem?_cons_succ, ↓List.set_cons_zero, ↓List.set_cons_succ, wipeD, Bool.not_true, Bool.not_false, decide_true, decide_false, beq_self_eq_true, true_and, and_true, Nat.reduceLeDiff, toDs, toDk, toDs_sh, ↓zS_ii, ↓zS_bi, ↓zS_bb, ↓zS_tt, ↓zS_ll, ↓zS_lt, ↓zS_lk, ↓zS_cut3, ↓zS_r3, ↓zS_r3D, ↓zS_nonI, ↓zS_nonN, ↓zS_ownO]
  by_cases c : w = 0
  · rw [iteS_pos c]
    simp only [et, ↓zHd0, zHp0, ↓zGd0, ↓zGd1, ↓zGd2, ↓zGd3, ↓zGd4, zGp0, startD, ↓List.map_cons, ↓List.map_nil, ↓List.length_cons, ↓List.length_nil, Nat.reduceAdd, Nat.reduceSub, Nat.sub_self, List.replicate, ↓List.cons_append, ↓List.nil_append, List.append_nil, ↓List.getElem?_cons_zero, ↓List.getElem?_cons_succ, ↓List.set_cons_zero, ↓List.set_cons_succ, wipeD, Bool.not_true, Bool.not_false, decide_true, decide_false, beq_self_eq_true, true_and, and_true, Nat.reduceLeDiff, toDs, toDk, toDs_sh, ↓zS_ii, ↓zS_bi, ↓zS_bb, ↓zS_tt, ↓zS_ll, ↓zS_lt, ↓zS_lk, ↓zS_cut3, ↓zS_r3, ↓zS_r3D, ↓zS_nonI, ↓zS_nonN, ↓zS_ownO]
    have hn2 : u.map pcD ≠ [] := fun z => hn (List.map_eq_nil_iff.mp z)
    have h4 := cut4 hn2
    rw [List.length_map] at h4
    refine lpick_ok h4.1 (by omega) fun x hx => ?_
    obtain ⟨q, hq, rfl⟩ := List.mem_map.mp (h4.2.1 x hx)
    refine lcontr_ok ?_
    rw [scT_pc]
    exact key _ (hu q hq).ctr
  · rw [iteS_neg c]
    simp only [↓zHd0, zHp0, ↓zGd0, ↓zGd1, ↓zGd2, ↓zGd3, ↓zGd4, zGp0, startD, ↓List.map_cons, ↓List.map_nil, ↓List.length_cons, ↓List.length_nil, Nat.reduceAdd, Nat.reduceSub, Nat.sub_self, List.replicate, ↓List.cons_append, ↓List.nil_append, List.append_nil, ↓List.getElem?_cons_zero, ↓List.getElem?_cons_succ, ↓List.set_cons_zero, ↓List.set_cons_succ, wipeD, Bool.not_true, Bool.not_false, decide_true, decide_false, beq_self_eq_true, true_and, and_true, Nat.reduceLeDiff, toDs, toDk, toDs_sh, ↓zS_ii, ↓zS_bi, ↓zS_bb, ↓zS_tt, ↓zS_ll, ↓zS_lt, ↓zS_lk, ↓zS_cut3, ↓zS_r3, ↓zS_r3D, ↓zS_nonI, ↓zS_nonN, ↓zS_ownO]
    exact key p hp
theorem dp_2 {u0 : Nat} {W : DEnds} {v : V} {n m : Int} (n0 : 0 < n) (n1 : n ≤ 3) (m0 : 0 < m) (m1 : m ≤ 3) : ∀ (k : Nat) (j : Int) (u : List Pc) (o5 o6 : Option SD), Okls u → u.length + k ≤ 900 →
    (∀ u o5 o6, Okls u → u.length ≤ u0 + k → W.nx [some (.sh .bag), some (.sh (.int 14)), some (.ow v (shP u)), some (.sh (.int n)), some (.sh (.int m)), o5, o6]) → u.length ≤ u0 →
    forD (gN 5) b__law_drawn_pieces_1 W (ups j k) [some (.sh .bag), some (.sh (.int 14)), some (.ow v (shP u)), some (.sh (.int n)), some (.sh (.int m)), o5, o6]
  | 0, j, u, o5, o6, hu, hz, hN, h0 => hN u o5 o6 hu h0
  | k + 1, j, u, o5, o6, hu, hz, hN, h0 => by
    rw [ups_succ, forD_c]
    show b__law_drawn_pieces_1 _ [some (.sh .bag), some (.sh (.int 14)), some (.ow v (shP u)), some (.sh (.int n)), some (.sh (.int m)), some (.sh (.int j)), o6]
    refine dp_1 n0 n1 m0 m1 hu (by omega) fun p o6 hp => ?_
    refine dp_2 (u0 := u0 + 1) n0 n1 m0 m1 k (j + 1) (u ++ [p]) _ _ (okls_app hu fun x hx => by rw [List.mem_singleton.mp hx]; exact hp) (by rw [List.length_append, List.length_singleton]; omega) (fun u o5 o6 h1 h2 => hN u o5 o6 h1 (by omega)) (by rw [List.length_append, List.length_singleton]; omega)
theorem drawn_ok {Q : D → Prop} (hq : ∀ u, Okls u → u.length ≤ 14 → Q (lD u)) : S__law_drawn_pieces [.bag, .int 14] Q := by
  refine ⟨rfl, ?_⟩
  simp only [t__law_drawn_pieces, ↓zHd0, zHp0, ↓zGd0, ↓zGd1, ↓zGd2, ↓zGd3, ↓zGd4, zGp0, startD, ↓List.map_cons, ↓List.map_nil, ↓List.length_cons, ↓List.length_nil, Nat.reduceAdd, Nat.reduceSub, Nat.sub_self, List.replicate, ↓List.cons_append, ↓List.nil_append, List.append_nil, ↓List.getElem?_cons_zero, ↓List.getElem?_cons_succ, ↓List.set_cons_zero, ↓List.set_cons_succ, wipeD, Bool.not_true, Bool.not_false, decide_true, decide_false, beq_self_eq_true, true_and, and_true, Nat.reduceLeDiff, toDs, toDk, toDs_sh, ↓zS_ii, ↓zS_bi, ↓zS_bb, ↓zS_tt, ↓zS_ll, ↓zS_lt, ↓zS_lk, ↓zS_cut3, ↓zS_r3, ↓zS_r3D, ↓zS_nonI, ↓zS_nonN, ↓zS_ownO]
  refine take_ok (by decide) (by decide) fun n n0 n1 => ?_
  simp only [↓zHd0, zHp0, ↓zGd0, ↓zGd1, ↓zGd2, ↓zGd3, ↓zGd4, zGp0, startD, ↓List.map_cons, ↓List.map_nil, ↓List.length_cons, ↓List.length_nil, Nat.reduceAdd, Nat.reduceSub, Nat.sub_self, List.replicate, ↓List.cons_append, ↓List.nil_append, List.append_nil, ↓List.getElem?_cons_zero, ↓List.getElem?_cons_succ, ↓List.set_cons_zero, ↓List.set_cons_succ, wipeD, Bool.not_true, Bool.not_false, decide_true, decide_false, beq_self_eq_true, true_and, and_true, Nat.reduceLeDiff, toDs, toDk, toDs_sh, ↓zS_ii, ↓zS_bi, ↓zS_bb, ↓zS_tt, ↓zS_ll, ↓zS_lt, ↓zS_lk, ↓zS_cut3, ↓zS_r3, ↓zS_r3D, ↓zS_nonI, ↓zS_nonN, ↓zS_ownO]
  refine take_ok (by decide) (by decide) fun m m0 m1 => ?_
  simp only [↓zHd0, zHp0, ↓zGd0, ↓zGd1, ↓zGd2, ↓zGd3, ↓zGd4, zGp0, startD, ↓List.map_cons, ↓List.map_nil, ↓List.length_cons, ↓List.length_nil, Nat.reduceAdd, Nat.reduceSub, Nat.sub_self, List.replicate, ↓List.cons_append, ↓List.nil_append, List.append_nil, ↓List.getElem?_cons_zero, ↓List.getElem?_cons_succ, ↓List.set_cons_zero, ↓List.set_cons_succ, wipeD, Bool.not_true, Bool.not_false, decide_true, decide_false, beq_self_eq_true, true_and, and_true, Nat.reduceLeDiff, toDs, toDk, toDs_sh, ↓zS_ii, ↓zS_bi, ↓zS_bb, ↓zS_tt, ↓zS_ll, ↓zS_lt, ↓zS_lk, ↓zS_cut3, ↓zS_r3, ↓zS_r3D, ↓zS_nonI, ↓zS_nonN, ↓zS_ownO]
  intro v _ _
  refine take_ok (by decide) (by decide) fun k k0 k1 => ?_
  simp only [↓zHd0, zHp0, ↓zGd0, ↓zGd1, ↓zGd2, ↓zGd3, ↓zGd4, zGp0, startD, ↓List.map_cons, ↓List.map_nil, ↓List.length_cons, ↓List.length_nil, Nat.reduceAdd, Nat.reduceSub, Nat.sub_self, List.replicate, ↓List.cons_append, ↓List.nil_append, List.append_nil, ↓List.getElem?_cons_zero, ↓List.getElem?_cons_succ, ↓List.set_cons_zero, ↓List.set_cons_succ, wipeD, Bool.not_true, Bool.not_false, decide_true, decide_false, beq_self_eq_true, true_and, and_true, Nat.reduceLeDiff, toDs, toDk, toDs_sh, ↓zS_ii, ↓zS_bi, ↓zS_bb, ↓zS_tt, ↓zS_ll, ↓zS_lt, ↓zS_lk, ↓zS_cut3, ↓zS_r3, ↓zS_r3D, ↓zS_nonI, ↓zS_nonN, ↓zS_ownO]
  refine ⟨⟨by omega, by omega⟩, ?_⟩
  refine dp_2 (u0 := 0) (by omega) (by omega) (by omega) (by omega) k.toNat 0 [] none none (fun _ h => nomatch h) (by rw [List.length_nil]; omega) (fun u o5 o6 hu hl => ?_) (Nat.le_refl _)
  have et : OD.toD (shP u) = .lst (u.map pcD) := by rw [OD.toD, toDs_sh]
  simp only [et, ↓zHd0, zHp0, ↓zGd0, ↓zGd1, ↓zGd2, ↓zGd3, ↓zGd4, zGp0, startD, ↓List.map_cons, ↓List.map_nil, ↓List.length_cons, ↓List.length_nil, Nat.reduceAdd, Nat.reduceSub, Nat.sub_self, List.replicate, ↓List.cons_append, ↓List.nil_append, List.append_nil, ↓List.getElem?_cons_zero, ↓List.getElem?_cons_succ, ↓List.set_cons_zero, ↓List.set_cons_succ, wipeD, Bool.not_true, Bool.not_false, decide_true, decide_false, beq_self_eq_true, true_and, and_true, Nat.reduceLeDiff, toDs, toDk, toDs_sh, ↓zS_ii, ↓zS_bi, ↓zS_bb, ↓zS_tt, ↓zS_ll, ↓zS_lt, ↓zS_lk, ↓zS_cut3, ↓zS_r3, ↓zS_r3D, ↓zS_nonI, ↓zS_nonN, ↓zS_ownO]
  exact hq u hu (by omega)
/-- a Heap that stands: its pieces fine, by levels, nothing to be taken out -/
structure Fh (n : Nat) (A : List Pc) : Prop where
  ok : Okl A
  len : A.length ≤ n
  nn : Nn A = A
theorem Fh.of {n : Nat} {u : List Pc} (h : Okl u) (hl : u.length ≤ n) : Fh n (Nn u) := ⟨Nn_okl h, Nat.le_trans (Nn_le u) hl, Nn_Nn u⟩
def Cpl (w : List Pc) (e l : Nat) : Prop := e < l ∧ ∃ q, w[e]? = some (ctr q) ∧ w[l]? = some q ∧ ∀ k z, e < k → k < l → w[k]? = some z → tch z q = false
theorem Cpl.split {w : List Pc} {e l : Nat} (h : Cpl w e l) : ∃ a b c q, w = a ++ ctr q :: (b ++ q :: c) ∧ a.length = e ∧ a.length + 1 + b.length = l ∧ ∀ z ∈ b, tch z q = false := by
  obtain ⟨h1, q, hp, hq, hb⟩ := h
  have le : e < w.length := (List.getElem?_eq_some_iff.mp hp).1
  have ll : l < w.length := (List.getElem?_eq_some_iff.mp hq).1
  have d1 : w.drop e = ctr q :: w.drop (e + 1) := by
    rw [List.drop_eq_getElem_cons le]
    congr 1
    exact (List.getElem?_eq_some_iff.mp hp).2
  have d2 : w.drop l = q :: w.drop (l + 1) := by
    rw [List.drop_eq_getElem_cons ll]
    congr 1
    exact (List.getElem?_eq_some_iff.mp hq).2
  refine ⟨w.take e, (w.drop (e + 1)).take (l - e - 1), w.drop (l + 1), q, ?_, by rw [List.length_take]; omega, by rw [List.length_take, List.length_take, List.length_drop]; omega, fun z hz => ?_⟩
  · have e1 : (w.drop (e + 1)).take (l - e - 1) ++ (w.drop (e + 1)).drop (l - e - 1) = w.drop (e + 1) := List.take_append_drop ..
    rw [List.drop_drop, show e + 1 + (l - e - 1) = l by omega, d2] at e1
    rw [e1, ← d1, List.take_append_drop]
  · obtain ⟨i, ez⟩ := List.mem_iff_getElem?.mp hz
    rw [List.getElem?_take] at ez
    by_cases hi : i < l - e - 1
    · rw [if_pos hi, List.getElem?_drop] at ez
      exact hb (e + 1 + i) z (by omega) (by omega) ez
    · rw [if_neg hi] at ez
      cases ez
theorem Cpl.app {u v : List Pc} {e l : Nat} (h : Cpl u e l) : Cpl (u ++ v) e l := by
  obtain ⟨h1, q, hp, hq, hb⟩ := h
  have le : e < u.length := (List.getElem?_eq_some_iff.mp hp).1
  have ll : l < u.length := (List.getElem?_eq_some_iff.mp hq).1
  refine ⟨h1, q, by rw [List.getElem?_append_left le]; exact hp, by rw [List.getElem?_append_left ll]; exact hq, fun k z k1 k2 e => hb k z k1 k2 ?_⟩
  rw [List.getElem?_append_left (by omega)] at e
  exact e
def rmv (w : List Pc) (e l : Nat) : List Pc := (w.zipIdx.filter fun z => !(z.2 == e || z.2 == l)).map (·.1)
theorem zip_all {α : Type} {p : Nat → Bool} : ∀ (u : List α) (n : Nat), (∀ k, n ≤ k → k < n + u.length → p k = true) → ((u.zipIdx n).filter fun z => p z.2).map (·.1) = u
  | [], n, _ => rfl
  | x :: u, n, h => by
    rw [List.zipIdx_cons, List.filter_cons]
    rw [if_pos (h n (Nat.le_refl _) (by rw [List.length_cons]; omega)), List.map_cons, zip_all u (n + 1) fun k k1 k2 => h k (by omega) (by rw [List.length_cons]; omega)]
theorem rmv_eq {a b c : List Pc} {p q : Pc} : rmv (a ++ p :: (b ++ q :: c)) a.length (a.length + 1 + b.length) = a ++ (b ++ c) := by
  unfold rmv
  rw [List.zipIdx_append, List.filter_append, List.map_append, List.zipIdx_cons, List.filter_cons]
  rw [zip_all (p := fun k => !(k == a.length || k == a.length + 1 + b.length)) a 0 fun k k1 k2 => by
    rw [show (k == a.length) = false from beq_false_of_ne (by omega), show (k == a.length + 1 + b.length) = false from beq_false_of_ne (by omega)]; rfl]
  rw [if_neg (by simp), List.zipIdx_append, List.filter_append, List.map_append, List.zipIdx_cons, List.filter_cons]
  rw [zip_all (p := fun k => !(k == a.length || k == a.length + 1 + b.length)) b _ fun k k1 k2 => by
    rw [show (k == a.length) = false from beq_false_of_ne (by omega), show (k == a.length + 1 + b.length) = false from beq_false_of_ne (by omega)]; rfl]
  rw [if_neg (by simp)]
  rw [zip_all (p := fun k => !(k == a.length || k == a.length + 1 + b.length)) c _ fun k k1 k2 => by
    rw [show (k == a.length) = false from beq_false_of_ne (by omega), show (k == a.length + 1 + b.length) = false from beq_false_of_ne (by omega)]; rfl]
theorem Cpl.rmv {w : List Pc} {e l : Nat} (h : Cpl w e l) : Qq (My.rmv w e l) w ∧ (My.rmv w e l).length + 2 = w.length ∧ ∀ x ∈ My.rmv w e l, x ∈ w := by
  obtain ⟨a, b, c, q, rfl, rfl, rfl, hb⟩ := h.split
  rw [rmv_eq]
  refine ⟨?_, by simp only [List.length_append, List.length_cons]; omega, fun x hx => ?_⟩
  · refine Qq.app (Qq.refl a) (Qq.symm ?_)
    have h1 : Qq (ctr q :: (b ++ q :: c)) (ctr q :: (q :: (b ++ c))) := Qq.of_cm (.cons _ (by
      have := (cm_over hb).symm.right c
      rw [List.append_assoc] at this
      exact this))
    refine h1.trans ?_
    have h2 : Qq ([ctr q, q] ++ (b ++ c)) ([] ++ (b ++ c)) := Qq.app (by have := Qq.pair (ctr q); rw [ctr_ctr] at this; exact this) (Qq.refl _)
    exact h2
  · simp only [List.mem_append, List.mem_cons] at hx ⊢
    rcases hx with hx | hx | hx <;> simp [hx]
theorem rem_split : ∀ {r r' : List Pc} {p : Pc}, rem r p = some r' → ∃ x y, r = x ++ ctr p :: y ∧ ∀ z ∈ x, tch z p = false
  | [], _, _, h => by cases h
  | q :: r, r', p, h => by
    by_cases t : tch q p = true
    · rw [rem_t t] at h
      by_cases e : q = ctr p
      · exact ⟨[], r, by rw [e]; rfl, fun _ z => nomatch z⟩
      · rw [if_neg e] at h; cases h
    · have t : tch q p = false := by simpa using t
      rw [rem_n t] at h
      obtain ⟨u, hu, _⟩ := Option.map_eq_some_iff.mp h
      obtain ⟨x, y, e, hx⟩ := rem_split hu
      refine ⟨q :: x, y, by rw [e]; rfl, fun z hz => ?_⟩
      rcases List.mem_cons.mp hz with rfl | hz
      · exact t
      · exact hx z hz
theorem Fw_none : ∀ u : List Pc, (∀ e l, ¬ Cpl u e l) → Fw u = u.reverse := list_rev_ind (fun _ => rfl) fun u p ih h => by
  have hu := ih fun e l c => h e l c.app
  rw [Fw_app, hu, List.reverse_append]
  show My.psh u.reverse p = p :: u.reverse
  unfold My.psh
  cases e : rem u.reverse p with
  | none => rfl
  | some r' =>
    exfalso
    obtain ⟨x, y, e1, hx⟩ := rem_split e
    have e2 : u = y.reverse ++ (ctr p :: x.reverse) := by
      have := congrArg List.reverse e1
      rw [List.reverse_reverse, List.reverse_append, List.reverse_cons, List.append_assoc] at this
      exact this
    refine h y.length (y.length + 1 + x.length) ⟨by omega, p, ?_, ?_, fun k z k1 k2 ez => ?_⟩
    · rw [e2, List.append_assoc, List.getElem?_append_right (by simp), List.length_reverse, Nat.sub_self]
      rfl
    · rw [List.getElem?_append_right (by rw [e2]; simp; omega), e2]
      simp
      rw [show y.length + 1 + x.length - (y.length + (x.length + 1)) = 0 by omega]
      rfl
    · rw [e2, List.append_assoc, List.getElem?_append_right (by rw [List.length_reverse]; omega), List.length_reverse] at ez
      obtain ⟨j, hj⟩ : ∃ j, k - y.length = j + 1 := ⟨k - y.length - 1, by omega⟩
      rw [hj] at ez
      have ez : (x.reverse ++ [p])[j]? = some z := ez
      rw [List.getElem?_append_left (by rw [List.length_reverse]; omega)] at ez
      exact hx z (List.mem_reverse.mp (List.mem_of_getElem? ez))
theorem Nn_none {u : List Pc} (h : ∀ e l, ¬ Cpl u e l) : Nn u = nf u := by
  unfold Nn
  rw [Fw_none u h, List.reverse_reverse]
theorem ups_zip {α : Type} (l : List α) : ∀ n : Nat, ups (n : Int) l.length = (l.zipIdx n).map fun z => D.int z.2 := by
  induction l with
  | nil => intro n; rfl
  | cons x l ih =>
    intro n
    rw [List.length_cons, ups_succ, List.zipIdx_cons, List.map_cons]
    rw [show (n : Int) + 1 = ((n + 1 : Nat) : Int) by omega, ih (n + 1)]
theorem ups_zip0 {α : Type} (l : List α) : ups 0 l.length = l.zipIdx.map fun z => D.int z.2 := ups_zip l 0
theorem zip_at {α : Type} : ∀ (l : List α) (n : Nat) (z : α × Nat), z ∈ l.zipIdx n → n ≤ z.2 ∧ z.2 < n + l.length ∧ l[z.2 - n]? = some z.1
  | [], n, z, h => by cases h
  | x :: l, n, z, h => by
    rw [List.zipIdx_cons] at h
    rcases List.mem_cons.mp h with rfl | h
    · exact ⟨Nat.le_refl _, by rw [List.length_cons]; show n < _; omega, by show (x :: l)[n - n]? = some x; rw [Nat.sub_self]; rfl⟩
    · obtain ⟨h1, h2, h3⟩ := zip_at l (n + 1) z h
      refine ⟨by omega, by rw [List.length_cons]; omega, ?_⟩
      rw [show z.2 - n = (z.2 - (n + 1)) + 1 by omega]
      exact h3
theorem zip_at0 {α : Type} {l : List α} {z : α × Nat} (h : z ∈ l.zipIdx) : z.2 < l.length ∧ l[z.2]? = some z.1 := by
  obtain ⟨_, h2, h3⟩ := zip_at l 0 z h
  exact ⟨by omega, h3⟩
theorem zip_fm {α β : Type} {p : α → Bool} {h : α → β} : ∀ (l : List α) (n : Nat), ((l.zipIdx n).filter fun z => p z.1).map (fun z => h z.1) = (l.filter p).map h
  | [], _ => rfl
  | x :: l, n => by
    rw [List.zipIdx_cons, List.filter_cons, List.filter_cons]
    show (if p x = true then (x, n) :: ((l.zipIdx (n + 1)).filter fun z => p z.1) else ((l.zipIdx (n + 1)).filter fun z => p z.1)).map (fun z => h z.1) = (if p x = true then x :: l.filter p else l.filter p).map h
    by_cases c : p x = true
    · rw [if_pos c, if_pos c, List.map_cons, List.map_cons, zip_fm l (n + 1)]
    · rw [if_neg c, if_neg c, zip_fm l (n + 1)]
theorem lev_split {s : List Lp} {k : Int} (hs : s.Pairwise fun a b => leL a b = true) (hk : ∀ y ∈ s, k ≤ y.1) : s = (s.filter fun z => decide (z.1 = k)) ++ s.filter fun z => !decide (z.1 = k) := by
  induction s with
  | nil => rfl
  | cons x s ih =>
    have hp := List.pairwise_cons.mp hs
    have ih := ih hp.2 fun y hy => hk y (List.mem_cons_of_mem _ hy)
    rw [List.filter_cons, List.filter_cons]
    by_cases c : x.1 = k
    · rw [decide_eq_true c, if_pos rfl, if_neg (by decide), List.cons_append, ← ih]
    · rw [decide_eq_false c, if_neg (by decide), if_pos (show (!false) = true from rfl)]
      have gt : ∀ y ∈ s, k < y.1 := fun y hy => by
        have h1 := hk x List.mem_cons_self
        have h2 := hp.1 y hy
        unfold leL at h2
        rw [decide_eq_true_eq] at h2
        omega
      rw [List.filter_eq_nil_iff.mpr fun y hy => by have := gt y hy; simp; omega, List.filter_eq_self.mpr fun y hy => by have := gt y hy; simp; omega]
      rfl
theorem lev_groups : ∀ (L : List Int) {s : List Lp}, s.Pairwise (fun a b => leL a b = true) → L.Pairwise (· < ·) → (∀ y ∈ s, y.1 ∈ L) → (L.map fun k => atV s k).flatten = s.map (·.2)
  | [], s, _, _, hm => by
    cases s with
    | nil => rfl
    | cons x s => exact nomatch hm x List.mem_cons_self
  | k :: L, s, hs, hL, hm => by
    have hp := List.pairwise_cons.mp hL
    have h1 := lev_split (k := k) hs fun y hy => by
      rcases List.mem_cons.mp (hm y hy) with e | h
      · omega
      · have := hp.1 _ h; omega
    have ih := lev_groups L (s := s.filter fun z => !decide (z.1 = k)) (hs.filter _) hp.2 fun y hy => by
      have := List.mem_filter.mp hy
      rcases List.mem_cons.mp (hm y this.1) with e | h
      · have := this.2; simp [e] at this
      · exact h
    rw [List.map_cons, List.flatten_cons]
    have e1 : (L.map fun k => atV s k) = L.map fun k' => atV (s.filter fun z => !decide (z.1 = k)) k' := List.map_congr_left fun k' hk' => by
      have := hp.1 k' hk'
      unfold atV
      rw [List.filter_filter]
      congr 1
      refine List.filter_congr fun y _ => ?_
      by_cases c : y.1 = k'
      · rw [decide_eq_true c, decide_eq_false (show ¬ y.1 = k by omega)]; rfl
      · rw [decide_eq_false c]; rfl
    rw [e1, ih]
    show (s.filter fun z => decide (z.1 = k)).map (·.2) ++ _ = _
    rw [← List.map_append, ← h1]
theorem atV_srt (w : List Pc) (k : Int) : srtP (atV (lev [] w) k) = atV (levS w) k := by
  refine srt_uniq ordP (srt_pw ordP _) ?_ ((List.mergeSort_perm _ _).trans (((List.mergeSort_perm (lev [] w) leL).symm.filter _).map _))
  have h := (srt_pw ordL (lev [] w)).filter fun z => decide (z.1 = k)
  unfold atV
  rw [List.pairwise_map]
  refine List.Pairwise.imp_of_mem (fun {a b} ha hb hab => ?_) h
  have h1 := (List.mem_filter.mp ha).2
  have h2 := (List.mem_filter.mp hb).2
  rw [decide_eq_true_eq] at h1 h2
  unfold leL at hab
  rw [decide_eq_true_eq] at hab
  rcases hab with c | c
  · omega
  · exact c.2
/-- the groups by ascending levels, each sorted, one behind another: the pieces by levels -/
theorem nf_groups {w : List Pc} {L : List Int} (hL : L.Pairwise (· < ·)) (hm : ∀ y ∈ lev [] w, y.1 ∈ L) : (L.map fun k => srtP (atV (lev [] w) k)).flatten = nf w := by
  rw [show (L.map fun k => srtP (atV (lev [] w) k)) = L.map fun k => atV (levS w) k from List.map_congr_left fun k _ => atV_srt w k]
  exact lev_groups L (srt_pw ordL _) hL fun y hy => hm y (List.mem_mergeSort.mp hy)
theorem cut_mid {α : Type} {xs : List α} {a b : Nat} (ha : a ≤ b) (hb : b ≤ xs.length) : cut xs (some (a : Int)) (some (b : Int)) = (xs.drop a).take (b - a) := by
  unfold cut
  rw [HT.sIx_nat, HT.sIx_nat, Nat.min_eq_left (Nat.le_trans ha hb), Nat.min_eq_left hb]
theorem cp_1 {W : DEnds} {w : List Pc} {l e : Nat} {o3 o4 : Option SD} (hw : Okl w) (hl : w.length ≤ 1000) (h1 : e < l) (h2 : l < w.length)
    (k1 : Cpl w e l → W.rt (.tup [.int e, .int l])) (k2 : ¬ Cpl w e l → ∀ o3 o4, W.nx [some (.sh (lD w)), some (.sh (.int l)), some (.sh (.int e)), o3, o4]) :
    b__law_couple_1 W [some (.sh (lD w)), some (.sh (.int l)), some (.sh (.int e)), o3, o4] := by
  have gl : w[l]? = some w[l] := List.getElem?_eq_getElem h2
  have ge : w[e]? = some w[e] := List.getElem?_eq_getElem (by omega)
  have ml : atI (w.map pcD) (l : Int) = some (pcD w[l]) := atI_q (by omega) (by rw [Int.toNat_natCast, List.getElem?_map, gl]; rfl)
  have me : atI (w.map pcD) (e : Int) = some (pcD w[e]) := atI_q (by omega) (by rw [Int.toNat_natCast, List.getElem?_map, ge]; rfl)
  unfold lD at k2 ⊢
  simp only [b__law_couple_1, ↓zHd0, zHp0, ↓zGd0, ↓zGd1, ↓zGd2, ↓zGd3, ↓zGd4, zGp0, startD, ↓List.map_cons, ↓List.map_nil, ↓List.length_cons, ↓List.length_nil, Nat.reduceAdd, Nat.reduceSub, Nat.sub_self, List.replicate, ↓List.cons_append, ↓List.nil_append, List.append_nil, ↓List.getElem?_cons_zero, ↓List.getElem?_cons_succ, ↓List.set_cons_zero, ↓List.set_cons_succ, wipeD, Bool.not_true, Bool.not_false, decide_true, decide_false, beq_self_eq_true, true_and, and_true, Nat.reduceLeDiff, toDs, toDk, toDs_sh, ↓zS_ii, ↓zS_bi, ↓zS_bb, ↓zS_tt, ↓zS_ll, ↓zS_lt, ↓zS_lk, ↓zS_cut3, ↓zS_r3, ↓zS_r3D, ↓zS_nonI, ↓zS_nonN, ↓zS_ownO]
  rw [show (e : Int) + 1 = ((e + 1 : Nat) : Int) by omega, cut_mid (by omega) (by rw [List.length_map]; omega), ← List.map_drop, ← List.map_take]
  refine ⟨pl_sz (by rw [List.length_take, List.length_drop]; omega), ?_⟩
  have hb : ∀ z, z ∈ (w.drop (e + 1)).take (l - (e + 1)) ↔ ∃ k, e < k ∧ k < l ∧ w[k]? = some z := fun z => by
    rw [List.mem_iff_getElem?]
    constructor
    · rintro ⟨i, hi⟩
      rw [List.getElem?_take] at hi
      by_cases c : i < l - (e + 1)
      · rw [if_pos c, List.getElem?_drop] at hi
        exact ⟨e + 1 + i, by omega, by omega, hi⟩
      · rw [if_neg c] at hi
        cases hi
    · rintro ⟨k, k1, k2, hk⟩
      refine ⟨k - (e + 1), ?_⟩
      rw [List.getElem?_take, if_pos (by omega), List.getElem?_drop, show e + 1 + (k - (e + 1)) = k by omega]
      exact hk
  generalize (w.drop (e + 1)).take (l - (e + 1)) = b at hb ⊢
  have ob : Okl b := fun z hz => by
    obtain ⟨k, _, _, h⟩ := (hb z).mp hz
    exact hw z (List.mem_of_getElem? h)
  refine lc_fofG pcD pcD (fun p => [some (.sh (.lst (w.map pcD))), some (.sh (.int l)), some (.sh (.int e)), o3, some (.sh (pcD p))]) (fun p => tch p w[l]) b [] (fun z _ F hF => hF) (fun z _ R hR => ?_) (fun z _ _ R hR => hR) ?_
  · simp only [↓zHd0, zHp0, ↓zGd0, ↓zGd1, ↓zGd2, ↓zGd3, ↓zGd4, zGp0, startD, ↓List.map_cons, ↓List.map_nil, ↓List.length_cons, ↓List.length_nil, Nat.reduceAdd, Nat.reduceSub, Nat.sub_self, List.replicate, ↓List.cons_append, ↓List.nil_append, List.append_nil, ↓List.getElem?_cons_zero, ↓List.getElem?_cons_succ, ↓List.set_cons_zero, ↓List.set_cons_succ, wipeD, Bool.not_true, Bool.not_false, decide_true, decide_false, beq_self_eq_true, true_and, and_true, Nat.reduceLeDiff, toDs, toDk, toDs_sh, ↓zS_ii, ↓zS_bi, ↓zS_bb, ↓zS_tt, ↓zS_ll, ↓zS_lt, ↓zS_lk, ↓zS_cut3, ↓zS_r3, ↓zS_r3D, ↓zS_nonI, ↓zS_nonN, ↓zS_ownO]
    rw [ml]
    simp only [↓zHd0, zHp0, ↓zGd0, ↓zGd1, ↓zGd2, ↓zGd3, ↓zGd4, zGp0, startD, ↓List.map_cons, ↓List.map_nil, ↓List.length_cons, ↓List.length_nil, Nat.reduceAdd, Nat.reduceSub, Nat.sub_self, List.replicate, ↓List.cons_append, ↓List.nil_append, List.append_nil, ↓List.getElem?_cons_zero, ↓List.getElem?_cons_succ, ↓List.set_cons_zero, ↓List.set_cons_succ, wipeD, Bool.not_true, Bool.not_false, decide_true, decide_false, beq_self_eq_true, true_and, and_true, Nat.reduceLeDiff, toDs, toDk, toDs_sh, ↓zS_ii, ↓zS_bi, ↓zS_bb, ↓zS_tt, ↓zS_ll, ↓zS_lt, ↓zS_lk, ↓zS_cut3, ↓zS_r3, ↓zS_r3D, ↓zS_nonI, ↓zS_nonN, ↓zS_ownO]
    exact ltouch_ok hR
  rw [List.nil_append, show eqb (.lst ((b.filter fun p => tch p w[l]).map pcD)) (.lst []) = decide ((b.filter fun p => tch p w[l]) = []) from lD_eqb _ []]
  refine ⟨⟨lD_pl fun z hz => ob z (List.mem_filter.mp hz).1, rfl⟩, ?_⟩
  by_cases c : (b.filter fun p => tch p w[l]) = []
  · rw [decide_eq_true c]
    simp only [↓zHd0, zHp0, ↓zGd0, ↓zGd1, ↓zGd2, ↓zGd3, ↓zGd4, zGp0, startD, ↓List.map_cons, ↓List.map_nil, ↓List.length_cons, ↓List.length_nil, Nat.reduceAdd, Nat.reduceSub, Nat.sub_self, List.replicate, ↓List.cons_append, ↓List.nil_append, List.append_nil, ↓List.getElem?_cons_zero, ↓List.getElem?_cons_succ, ↓List.set_cons_zero, ↓List.set_cons_succ, wipeD, Bool.not_true, Bool.not_false, decide_true, decide_false, beq_self_eq_true, true_and, and_true, Nat.reduceLeDiff, toDs, toDk, toDs_sh, ↓zS_ii, ↓zS_bi, ↓zS_bb, ↓zS_tt, ↓zS_ll, ↓zS_lt, ↓zS_lk, ↓zS_cut3, ↓zS_r3, ↓zS_r3D, ↓zS_nonI, ↓zS_nonN, ↓zS_ownO]
    rw [me, ml]
    simp only [↓zHd0, zHp0, ↓zGd0, ↓zGd1, ↓zGd2, ↓zGd3, ↓zGd4, zGp0, startD, ↓List.map_cons, ↓List.map_nil, ↓List.length_cons, ↓List.length_nil, Nat.reduceAdd, Nat.reduceSub, Nat.sub_self, List.replicate, ↓List.cons_append, ↓List.nil_append, List.append_nil, ↓List.getElem?_cons_zero, ↓List.getElem?_cons_succ, ↓List.set_cons_zero, ↓List.set_cons_succ, wipeD, Bool.not_true, Bool.not_false, decide_true, decide_false, beq_self_eq_true, true_and, and_true, Nat.reduceLeDiff, toDs, toDk, toDs_sh, ↓zS_ii, ↓zS_bi, ↓zS_bb, ↓zS_tt, ↓zS_ll, ↓zS_lt, ↓zS_lk, ↓zS_cut3, ↓zS_r3, ↓zS_r3D, ↓zS_nonI, ↓zS_nonN, ↓zS_ownO]
    refine lcontr_ok ?_
    have e4 : ∀ Q : D → Prop, oEq (pcD w[e]) (pcD (ctr w[l])) Q = ((DL.plain (pcD w[e]) = true ∧ DL.plain (pcD (ctr w[l])) = true) ∧ Q (.bl (eqb (pcD w[e]) (pcD (ctr w[l]))))) := fun Q => propext Iff.rfl
    rw [e4, pc_eqb]
    refine ⟨⟨pc_pl (hw _ (List.getElem_mem _)), pc_pl (hw _ (List.getElem_mem _)).ctr⟩, ?_⟩
    by_cases q : w[e] = ctr w[l]
    · rw [decide_eq_true q]
      simp only [↓zHd0, zHp0, ↓zGd0, ↓zGd1, ↓zGd2, ↓zGd3, ↓zGd4, zGp0, startD, ↓List.map_cons, ↓List.map_nil, ↓List.length_cons, ↓List.length_nil, Nat.reduceAdd, Nat.reduceSub, Nat.sub_self, List.replicate, ↓List.cons_append, ↓List.nil_append, List.append_nil, ↓List.getElem?_cons_zero, ↓List.getElem?_cons_succ, ↓List.set_cons_zero, ↓List.set_cons_succ, wipeD, Bool.not_true, Bool.not_false, decide_true, decide_false, beq_self_eq_true, true_and, and_true, Nat.reduceLeDiff, toDs, toDk, toDs_sh, ↓zS_ii, ↓zS_bi, ↓zS_bb, ↓zS_tt, ↓zS_ll, ↓zS_lt, ↓zS_lk, ↓zS_cut3, ↓zS_r3, ↓zS_r3D, ↓zS_nonI, ↓zS_nonN, ↓zS_ownO]
      refine k1 ⟨h1, w[l], by rw [ge, q], gl, fun k z k1 k2 hk => ?_⟩
      have hz := List.filter_eq_nil_iff.mp c z ((hb z).mpr ⟨k, k1, k2, hk⟩)
      simpa using hz
    · rw [decide_eq_false q]
      simp only [↓zHd0, zHp0, ↓zGd0, ↓zGd1, ↓zGd2, ↓zGd3, ↓zGd4, zGp0, startD, ↓List.map_cons, ↓List.map_nil, ↓List.length_cons, ↓List.length_nil, Nat.reduceAdd, Nat.reduceSub, Nat.sub_self, List.replicate, ↓List.cons_append, ↓List.nil_append, List.append_nil, ↓List.getElem?_cons_zero, ↓List.getElem?_cons_succ, ↓List.set_cons_zero, ↓List.set_cons_succ, wipeD, Bool.not_true, Bool.not_false, decide_true, decide_false, beq_self_eq_true, true_and, and_true, Nat.reduceLeDiff, toDs, toDk, toDs_sh, ↓zS_ii, ↓zS_bi, ↓zS_bb, ↓zS_tt, ↓zS_ll, ↓zS_lt, ↓zS_lk, ↓zS_cut3, ↓zS_r3, ↓zS_r3D, ↓zS_nonI, ↓zS_nonN, ↓zS_ownO]
      refine k2 (fun ⟨_, q', a1, a2, _⟩ => ?_) _ _
      rw [gl] at a2
      rw [ge] at a1
      cases a2
      exact q (Option.some.inj a1)
  · rw [decide_eq_false c]
    simp only [↓zHd0, zHp0, ↓zGd0, ↓zGd1, ↓zGd2, ↓zGd3, ↓zGd4, zGp0, startD, ↓List.map_cons, ↓List.map_nil, ↓List.length_cons, ↓List.length_nil, Nat.reduceAdd, Nat.reduceSub, Nat.sub_self, List.replicate, ↓List.cons_append, ↓List.nil_append, List.append_nil, ↓List.getElem?_cons_zero, ↓List.getElem?_cons_succ, ↓List.set_cons_zero, ↓List.set_cons_succ, wipeD, Bool.not_true, Bool.not_false, decide_true, decide_false, beq_self_eq_true, true_and, and_true, Nat.reduceLeDiff, toDs, toDk, toDs_sh, ↓zS_ii, ↓zS_bi, ↓zS_bb, ↓zS_tt, ↓zS_ll, ↓zS_lt, ↓zS_lk, ↓zS_cut3, ↓zS_r3, ↓zS_r3D, ↓zS_nonI, ↓zS_nonN, ↓zS_ownO]
    refine k2 (fun ⟨_, q', a1, a2, a3⟩ => c ?_) _ _
    rw [gl] at a2
    cases a2
    refine List.filter_eq_nil_iff.mpr fun z hz => ?_
    obtain ⟨k, h1, h2, h3⟩ := (hb z).mp hz
    rw [a3 k z h1 h2 h3]
    decide
theorem cp_2 {W : DEnds} {w : List Pc} {l : Nat} (hw : Okl w) (hl : w.length ≤ 1000) (h2 : l < w.length) (k1 : ∀ e, Cpl w e l → W.rt (.tup [.int e, .int l])) : ∀ (n e : Nat) (o2 o3 o4 : Option SD), e + n = l →
    ((∀ i, e ≤ i → i < l → ¬ Cpl w i l) → ∀ o2 o3 o4, W.nx [some (.sh (lD w)), some (.sh (.int l)), o2, o3, o4]) →
    forD (gN 2) b__law_couple_1 W (ups e n) [some (.sh (lD w)), some (.sh (.int l)), o2, o3, o4]
  | 0, e, o2, o3, o4, he, k2 => k2 (fun i h1 h2 => by omega) o2 o3 o4
  | n + 1, e, o2, o3, o4, he, k2 => by
    rw [ups_succ, forD_c]
    show b__law_couple_1 _ [some (.sh (lD w)), some (.sh (.int l)), some (.sh (.int e)), o3, o4]
    refine cp_1 hw hl (by omega) h2 (k1 e) fun hn o3 o4 => ?_
    rw [show (e : Int) + 1 = ((e + 1 : Nat) : Int) by omega]
    refine cp_2 hw hl h2 k1 n (e + 1) _ _ _ (by omega) fun h => k2 fun i i1 i2 => ?_
    by_cases q : i = e
    · exact q ▸ hn
    · exact h i (by omega) i2
theorem cp_3 {W : DEnds} {w : List Pc} (hw : Okl w) (hl : w.length ≤ 1000) (k1 : ∀ e l, Cpl w e l → W.rt (.tup [.int e, .int l])) : ∀ (n l : Nat) (o1 o2 o3 o4 : Option SD), l + n = w.length →
    ((∀ e i, l ≤ i → ¬ Cpl w e i) → ∀ o1 o2 o3 o4, W.nx [some (.sh (lD w)), o1, o2, o3, o4]) →
    forD (gN 1) b__law_couple_2 W (ups l n) [some (.sh (lD w)), o1, o2, o3, o4]
  | 0, l, o1, o2, o3, o4, he, k2 => k2 (fun e i h1 h2 => by
      obtain ⟨_, q, _, a, _⟩ := h2
      have := (List.getElem?_eq_some_iff.mp a).1
      omega) o1 o2 o3 o4
  | n + 1, l, o1, o2, o3, o4, he, k2 => by
    have ih := fun o1 o2 o3 o4 => cp_3 (W := W) hw hl k1 n (l + 1) o1 o2 o3 o4 (by omega)
    rw [ups_succ, forD_c]
    rw [show (l : Int) + 1 = ((l + 1 : Nat) : Int) by omega]
    generalize forD (gN 1) b__law_couple_2 W (ups ((l + 1 : Nat) : Int) n) = G at ih ⊢
    simp only [b__law_couple_2, ↓zHd0, zHp0, ↓zGd0, ↓zGd1, ↓zGd2, ↓zGd3, ↓zGd4, zGp0, startD, ↓List.map_cons, ↓List.map_nil, ↓List.length_cons, ↓List.length_nil, Nat.reduceAdd, Nat.reduceSub, Nat.sub_self, List.replicate, ↓List.cons_append, ↓List.nil_append, List.append_nil, ↓List.getElem?_cons_zero, ↓List.getElem?_cons_succ, ↓List.set_cons_zero, ↓List.set_cons_succ, wipeD, Bool.not_true, Bool.not_false, decide_true, decide_false, beq_self_eq_true, true_and, and_true, Nat.reduceLeDiff, toDs, toDk, toDs_sh, ↓zS_ii, ↓zS_bi, ↓zS_bb, ↓zS_tt, ↓zS_ll, ↓zS_lt, ↓zS_lk, ↓zS_cut3, ↓zS_r3, ↓zS_r3D, ↓zS_nonI, ↓zS_nonN, ↓zS_ownO]
    refine ⟨⟨by omega, by omega⟩, ?_⟩
    rw [show (l : Int).toNat = l by omega]
    refine cp_2 (W := { nx := G, rt := W.rt, bk := W.nx, ct := G, ro := W.ro }) hw hl (by omega) (fun e c => k1 e l c) l 0 _ _ _ (by omega) fun h o2 o3 o4 => ?_
    refine ih _ _ _ _ fun h' => k2 fun e i i1 c => ?_
    by_cases q : i = l
    · subst q
      exact h e (by omega) c.1 c
    · exact h' e i (by omega) c
theorem couple_ok {w : List Pc} {Q : D → Prop} (hw : Okl w) (hl : w.length ≤ 1000) (h1 : ∀ e l, Cpl w e l → Q (.tup [.int (e : Nat), .int (l : Nat)])) (h2 : (∀ e l, ¬ Cpl w e l) → Q .non) : S__law_couple [lD w] Q := by
  refine ⟨rfl, ?_⟩
  show t__law_couple _ [some (.sh (lD w)), none, none, none, none]
  unfold lD
  simp only [t__law_couple, ↓zHd0, zHp0, ↓zGd0, ↓zGd1, ↓zGd2, ↓zGd3, ↓zGd4, zGp0, startD, ↓List.map_cons, ↓List.map_nil, ↓List.length_cons, ↓List.length_nil, Nat.reduceAdd, Nat.reduceSub, Nat.sub_self, List.replicate, ↓List.cons_append, ↓List.nil_append, List.append_nil, ↓List.getElem?_cons_zero, ↓List.getElem?_cons_succ, ↓List.set_cons_zero, ↓List.set_cons_succ, wipeD, Bool.not_true, Bool.not_false, decide_true, decide_false, beq_self_eq_true, true_and, and_true, Nat.reduceLeDiff, toDs, toDk, toDs_sh, ↓zS_ii, ↓zS_bi, ↓zS_bb, ↓zS_tt, ↓zS_ll, ↓zS_lt, ↓zS_lk, ↓zS_cut3, ↓zS_r3, ↓zS_r3D, ↓zS_nonI, ↓zS_nonN, ↓zS_ownO]
  rw [List.length_map]
  refine ⟨⟨by omega, by omega⟩, ?_⟩
  rw [show ((w.length : Int)).toNat = w.length by omega]
  refine cp_3 (W := { nx := dRet (dC D.non) { nx := fun x => Q D.non, rt := Q }, rt := Q }) hw hl (fun e l c => h1 e l c) w.length 0 _ _ _ _ (by omega) fun h o1 o2 o3 o4 => ?_
  simp only [↓zHd0, zHp0, ↓zGd0, ↓zGd1, ↓zGd2, ↓zGd3, ↓zGd4, zGp0, startD, ↓List.map_cons, ↓List.map_nil, ↓List.length_cons, ↓List.length_nil, Nat.reduceAdd, Nat.reduceSub, Nat.sub_self, List.replicate, ↓List.cons_append, ↓List.nil_append, List.append_nil, ↓List.getElem?_cons_zero, ↓List.getElem?_cons_succ, ↓List.set_cons_zero, ↓List.set_cons_succ, wipeD, Bool.not_true, Bool.not_false, decide_true, decide_false, beq_self_eq_true, true_and, and_true, Nat.reduceLeDiff, toDs, toDk, toDs_sh, ↓zS_ii, ↓zS_bi, ↓zS_bb, ↓zS_tt, ↓zS_ll, ↓zS_lt, ↓zS_lk, ↓zS_cut3, ↓zS_r3, ↓zS_r3D, ↓zS_nonI, ↓zS_nonN, ↓zS_ownO]
  exact h2 fun e l => h e l (Nat.zero_le _)
def CplD (u : List Pc) (x : D) : Prop := (∃ e l : Nat, Cpl u e l ∧ x = .tup [.int e, .int l]) ∨ ((∀ e l, ¬ Cpl u e l) ∧ x = .non)
theorem couple_x {w : List Pc} {Q : D → Prop} (hw : Okl w) (hl : w.length ≤ 1000) (h : ∀ x, CplD w x → Q x) : S__law_couple [lD w] Q := couple_ok hw hl (fun e l c => h _ (.inl ⟨e, l, c, rfl⟩)) fun c => h _ (.inr ⟨c, rfl⟩)
theorem eqF_nat (a b : Nat) : eqF (.int a) (.int b) = decide (a = b) := by
  show decide ((a : Int) = (b : Int)) = _
  rw [decide_eq_decide]
  omega
theorem in_two {k e l : Nat} : inD (.int k) [.int e, .int l] = (k == e || k == l) := by
  unfold inD
  simp only [List.any_cons, List.any_nil, eqF_nat, Bool.or_false]
  rw [Bool.eq_iff_iff]
  simp
  omega
theorem lo_1 {W : DEnds} {u : List Pc} {e l : Nat} {o2 : Option SD} (hu : Okl u) (hl : u.length ≤ 1000) (c : Cpl u e l) (k : ∀ x, CplD (rmv u e l) x → W.nx [some (.sh (lD (rmv u e l))), some (.sh x), o2]) :
    b__law_left_over_1 W [some (.sh (lD u)), some (.sh (.tup [.int (e : Nat), .int (l : Nat)])), o2] := by
  obtain ⟨r1, r2, r3⟩ := c.rmv
  have kx := fun x => k x
  unfold lD at k ⊢
  simp only [b__law_left_over_1, ↓zHd0, zHp0, ↓zGd0, ↓zGd1, ↓zGd2, ↓zGd3, ↓zGd4, zGp0, startD, ↓List.map_cons, ↓List.map_nil, ↓List.length_cons, ↓List.length_nil, Nat.reduceAdd, Nat.reduceSub, Nat.sub_self, List.replicate, ↓List.cons_append, ↓List.nil_append, List.append_nil, ↓List.getElem?_cons_zero, ↓List.getElem?_cons_succ, ↓List.set_cons_zero, ↓List.set_cons_succ, wipeD, Bool.not_true, Bool.not_false, decide_true, decide_false, beq_self_eq_true, true_and, and_true, Nat.reduceLeDiff, toDs, toDk, toDs_sh, ↓zS_ii, ↓zS_bi, ↓zS_bb, ↓zS_tt, ↓zS_ll, ↓zS_lt, ↓zS_lk, ↓zS_cut3, ↓zS_r3, ↓zS_r3D, ↓zS_nonI, ↓zS_nonN, ↓zS_ownO]
  rw [List.length_map]
  rw [show ((u.length : Int)).toNat = u.length by omega, ups_zip0]
  refine ⟨⟨by omega, by omega⟩, by rw [List.length_map, List.length_zipIdx, sizeLine_eq]; omega, ?_⟩
  refine lc_fofG (fun z : Pc × Nat => D.int z.2) (fun z => pcD z.1) (fun z => [some (.sh (.lst (u.map pcD))), some (.sh (.tup [.int (e : Nat), .int (l : Nat)])), some (.sh (.int z.2))]) (fun z => !(z.2 == e || z.2 == l)) u.zipIdx [] (fun z _ F hF => hF) (fun z _ R hR => ?_) (fun z hz _ R hR => ?_) ?_
  · simp only [↓zHd0, zHp0, ↓zGd0, ↓zGd1, ↓zGd2, ↓zGd3, ↓zGd4, zGp0, startD, ↓List.map_cons, ↓List.map_nil, ↓List.length_cons, ↓List.length_nil, Nat.reduceAdd, Nat.reduceSub, Nat.sub_self, List.replicate, ↓List.cons_append, ↓List.nil_append, List.append_nil, ↓List.getElem?_cons_zero, ↓List.getElem?_cons_succ, ↓List.set_cons_zero, ↓List.set_cons_succ, wipeD, Bool.not_true, Bool.not_false, decide_true, decide_false, beq_self_eq_true, true_and, and_true, Nat.reduceLeDiff, toDs, toDk, toDs_sh, ↓zS_ii, ↓zS_bi, ↓zS_bb, ↓zS_tt, ↓zS_ll, ↓zS_lt, ↓zS_lk, ↓zS_cut3, ↓zS_r3, ↓zS_r3D, ↓zS_nonI, ↓zS_nonN, ↓zS_ownO]
    refine ⟨⟨rfl, rfl⟩, ?_⟩
    rw [in_two]
    exact hR
  · obtain ⟨z1, z2⟩ := zip_at0 hz
    simp only [↓zHd0, zHp0, ↓zGd0, ↓zGd1, ↓zGd2, ↓zGd3, ↓zGd4, zGp0, startD, ↓List.map_cons, ↓List.map_nil, ↓List.length_cons, ↓List.length_nil, Nat.reduceAdd, Nat.reduceSub, Nat.sub_self, List.replicate, ↓List.cons_append, ↓List.nil_append, List.append_nil, ↓List.getElem?_cons_zero, ↓List.getElem?_cons_succ, ↓List.set_cons_zero, ↓List.set_cons_succ, wipeD, Bool.not_true, Bool.not_false, decide_true, decide_false, beq_self_eq_true, true_and, and_true, Nat.reduceLeDiff, toDs, toDk, toDs_sh, ↓zS_ii, ↓zS_bi, ↓zS_bb, ↓zS_tt, ↓zS_ll, ↓zS_lt, ↓zS_lk, ↓zS_cut3, ↓zS_r3, ↓zS_r3D, ↓zS_nonI, ↓zS_nonN, ↓zS_ownO]
    rw [atI_q (v := pcD z.1) (by omega) (by rw [Int.toNat_natCast, List.getElem?_map, z2]; rfl)]
    exact hR
  · rw [List.nil_append]
    have er : ((u.zipIdx.filter fun z => !(z.2 == e || z.2 == l)).map fun z => pcD z.1) = (rmv u e l).map pcD := by
      unfold rmv
      rw [List.map_map]; rfl
    rw [er]
    exact couple_x (fun z hz => hu z (r3 z hz)) (by omega) k
theorem lo_2 {W : DEnds} {w u : List Pc} {x : D} {o2 : Option SD} (hw : w.length ≤ 1000) (hu : Okl u) (hl : u.length ≤ w.length) (q : Qq u w) (hx : CplD u x) (k : ∀ u x o2, Okl u → u.length ≤ w.length → Qq u w → (∀ e l, ¬ Cpl u e l) → W.nx [some (.sh (lD u)), some (.sh x), o2]) :
    dWhile (tBl (dOp (oIsN true) (dVar 1) (dC D.non))) b__law_left_over_1 W [some (.sh (lD u)), some (.sh x), o2] := by
  refine ⟨fun m δ => ∃ u o2 x, m = u.length ∧ Okl u ∧ u.length ≤ w.length ∧ Qq u w ∧ CplD u x ∧ δ = [some (.sh (lD u)), some (.sh x), o2], ⟨_, u, o2, x, rfl, hu, hl, q, hx, rfl⟩, ?_⟩
  rintro m δ ⟨u, o2, x, rfl, hu, hl, q, hx, rfl⟩
  rcases hx with ⟨e, l, c, rfl⟩ | ⟨c, rfl⟩
  · simp only [↓zHd0, zHp0, ↓zGd0, ↓zGd1, ↓zGd2, ↓zGd3, ↓zGd4, zGp0, startD, ↓List.map_cons, ↓List.map_nil, ↓List.length_cons, ↓List.length_nil, Nat.reduceAdd, Nat.reduceSub, Nat.sub_self, List.replicate, ↓List.cons_append, ↓List.nil_append, List.append_nil, ↓List.getElem?_cons_zero, ↓List.getElem?_cons_succ, ↓List.set_cons_zero, ↓List.set_cons_succ, wipeD, Bool.not_true, Bool.not_false, decide_true, decide_false, beq_self_eq_true, true_and, and_true, Nat.reduceLeDiff, toDs, toDk, toDs_sh, ↓zS_ii, ↓zS_bi, ↓zS_bb, ↓zS_tt, ↓zS_ll, ↓zS_lt, ↓zS_lk, ↓zS_cut3, ↓zS_r3, ↓zS_r3D, ↓zS_nonI, ↓zS_nonN, ↓zS_ownO]
    refine lo_1 hu (by omega) c fun x' hx' => ?_
    obtain ⟨r1, r2, r3⟩ := c.rmv
    exact ⟨_, by omega, rmv u e l, o2, x', rfl, fun z hz => hu z (r3 z hz), by omega, r1.trans q, hx', rfl⟩
  · simp only [↓zHd0, zHp0, ↓zGd0, ↓zGd1, ↓zGd2, ↓zGd3, ↓zGd4, zGp0, startD, ↓List.map_cons, ↓List.map_nil, ↓List.length_cons, ↓List.length_nil, Nat.reduceAdd, Nat.reduceSub, Nat.sub_self, List.replicate, ↓List.cons_append, ↓List.nil_append, List.append_nil, ↓List.getElem?_cons_zero, ↓List.getElem?_cons_succ, ↓List.set_cons_zero, ↓List.set_cons_succ, wipeD, Bool.not_true, Bool.not_false, decide_true, decide_false, beq_self_eq_true, true_and, and_true, Nat.reduceLeDiff, toDs, toDk, toDs_sh, ↓zS_ii, ↓zS_bi, ↓zS_bb, ↓zS_tt, ↓zS_ll, ↓zS_lt, ↓zS_lk, ↓zS_cut3, ↓zS_r3, ↓zS_r3D, ↓zS_nonI, ↓zS_nonN, ↓zS_ownO]
    exact k u _ _ hu hl q c
theorem left_ok {w : List Pc} {Q : D → Prop} (hw : Okl w) (hl : w.length ≤ 1000) (hq : ∀ u, Okl u → u.length ≤ w.length → Qq u w → (∀ e l, ¬ Cpl u e l) → Q (lD u)) : S__law_left_over [lD w] Q := by
  refine ⟨rfl, ?_⟩
  show t__law_left_over _ [some (.sh (lD w)), none, none]
  have key : ∀ x, CplD w x → dWhile (tBl (dOp (oIsN true) (dVar 1) (dC D.non))) b__law_left_over_1 { nx := dRet (dVar 0) { nx := fun x => Q D.non, rt := Q }, rt := Q } [some (.sh (lD w)), some (.sh x), none] := fun x hx => by
    refine lo_2 hl hw (Nat.le_refl _) (Qq.refl _) hx fun u x o2 h1 h2 h3 h4 => ?_
    simp only [↓zHd0, zHp0, ↓zGd0, ↓zGd1, ↓zGd2, ↓zGd3, ↓zGd4, zGp0, startD, ↓List.map_cons, ↓List.map_nil, ↓List.length_cons, ↓List.length_nil, Nat.reduceAdd, Nat.reduceSub, Nat.sub_self, List.replicate, ↓List.cons_append, ↓List.nil_append, List.append_nil, ↓List.getElem?_cons_zero, ↓List.getElem?_cons_succ, ↓List.set_cons_zero, ↓List.set_cons_succ, wipeD, Bool.not_true, Bool.not_false, decide_true, decide_false, beq_self_eq_true, true_and, and_true, Nat.reduceLeDiff, toDs, toDk, toDs_sh, ↓zS_ii, ↓zS_bi, ↓zS_bb, ↓zS_tt, ↓zS_ll, ↓zS_lt, ↓zS_lk, ↓zS_cut3, ↓zS_r3, ↓zS_r3D, ↓zS_nonI, ↓zS_nonN, ↓zS_ownO]
    exact hq u h1 h2 h3 h4
  have key' : S__law_couple [lD w] fun x => dWhile (tBl (dOp (oIsN true) (dVar 1) (dC D.non))) b__law_left_over_1 { nx := dRet (dVar 0) { nx := fun x => Q D.non, rt := Q }, rt := Q } [some (.sh (lD w)), some (.sh x), none] := couple_x hw hl key
  unfold lD at key' ⊢
  simp only [t__law_left_over, ↓zHd0, zHp0, ↓zGd0, ↓zGd1, ↓zGd2, ↓zGd3, ↓zGd4, zGp0, startD, ↓List.map_cons, ↓List.map_nil, ↓List.length_cons, ↓List.length_nil, Nat.reduceAdd, Nat.reduceSub, Nat.sub_self, List.replicate, ↓List.cons_append, ↓List.nil_append, List.append_nil, ↓List.getElem?_cons_zero, ↓List.getElem?_cons_succ, ↓List.set_cons_zero, ↓List.set_cons_succ, wipeD, Bool.not_true, Bool.not_false, decide_true, decide_false, beq_self_eq_true, true_and, and_true, Nat.reduceLeDiff, toDs, toDk, toDs_sh, ↓zS_ii, ↓zS_bi, ↓zS_bb, ↓zS_tt, ↓zS_ll, ↓zS_lt, ↓zS_lk, ↓zS_cut3, ↓zS_r3, ↓zS_r3D, ↓zS_nonI, ↓zS_nonN, ↓zS_ownO]
  exact key'
abbrev lvi (acc : List Lp) : List D := acc.map fun z => D.int z.1
theorem lev_at {w : List Pc} {k i : Nat} {z : Lp} (h : (lev [] (w.take k))[i]? = some z) : i < k ∧ w[i]? = some z.2 := by
  have e := lev_snd (w.take k) []
  rw [List.map_nil, List.nil_append] at e
  have h2 : ((lev [] (w.take k)).map (·.2))[i]? = some z.2 := by rw [List.getElem?_map, h]; rfl
  rw [e, List.getElem?_take] at h2
  by_cases c : i < k
  · rw [if_pos c] at h2
    exact ⟨c, h2⟩
  · rw [if_neg c] at h2
    cases h2
theorem lev_tl {w : List Pc} {k : Nat} (hk : k ≤ w.length) : (lev [] (w.take k)).length = k := by
  rw [lev_len, List.length_nil, List.length_take]; omega
theorem lvl_1 {W : DEnds} {w : List Pc} {v : V} {k : Nat} {o3 o4 : Option SD} (hw : Okl w) (hl : w.length ≤ 1000) (hk : k < w.length) (hN : W.nx [some (.sh (lD w)), some (.ow v (.lst ((lvi (lev [] (w.take (k + 1)))).map .sh))), some (.sh (.int k)), o3, o4]) :
    b__law_leveled_1 W [some (.sh (lD w)), some (.ow v (.lst ((lvi (lev [] (w.take k))).map .sh))), some (.sh (.int k)), o3, o4] := by
  have gk : w[k]? = some w[k] := List.getElem?_eq_getElem hk
  have mk : atI (w.map pcD) (k : Int) = some (pcD w[k]) := atI_q (by omega) (by rw [Int.toNat_natCast, List.getElem?_map, gk]; rfl)
  have el : lev [] (w.take (k + 1)) = lev [] (w.take k) ++ [(mxl (lev [] (w.take k)) w[k], w[k])] := by
    rw [List.take_succ, gk, lev_app]
    rfl
  have hz := lev_tl (w := w) (k := k) (by omega)
  have hat := fun i z => lev_at (w := w) (k := k) (i := i) (z := z)
  rw [el] at hN
  generalize lev [] (w.take k) = acc at hN hz hat ⊢
  unfold lD at hN ⊢
  simp only [b__law_leveled_1, toDs_sh, ↓zHd0, zHp0, ↓zGd0, ↓zGd1, ↓zGd2, ↓zGd3, ↓zGd4, zGp0, startD, ↓List.map_cons, ↓List.map_nil, ↓List.length_cons, ↓List.length_nil, Nat.reduceAdd, Nat.reduceSub, Nat.sub_self, List.replicate, ↓List.cons_append, ↓List.nil_append, List.append_nil, ↓List.getElem?_cons_zero, ↓List.getElem?_cons_succ, ↓List.set_cons_zero, ↓List.set_cons_succ, wipeD, Bool.not_true, Bool.not_false, decide_true, decide_false, beq_self_eq_true, true_and, and_true, Nat.reduceLeDiff, toDs, toDk, toDs_sh, ↓zS_ii, ↓zS_bi, ↓zS_bb, ↓zS_tt, ↓zS_ll, ↓zS_lt, ↓zS_lk, ↓zS_cut3, ↓zS_r3, ↓zS_r3D, ↓zS_nonI, ↓zS_nonN, ↓zS_ownO]
  rw [Int.toNat_natCast, ← hz, ups_zip0]
  refine ⟨⟨by omega, by omega⟩, by rw [List.length_map, List.length_zipIdx, sizeLine_eq]; omega, ?_⟩
  rw [hz]
  refine lc_fofG (fun z : Lp × Nat => D.int z.2) (fun z => D.int (z.1.1 + 1)) (fun z => [some (.sh (.lst (w.map pcD))), some (.sh (.lst (lvi acc))), some (.sh (.int k)), some (.sh (.int z.2)), o4]) (fun z => tch z.1.2 w[k]) acc.zipIdx [] (fun z _ F hF => hF) (fun z hz R hR => ?_) (fun z hz _ R hR => ?_) ?_
  · obtain ⟨z1, z2⟩ := zip_at0 hz
    obtain ⟨z3, z4⟩ := hat _ _ z2
    simp only [↓zHd0, zHp0, ↓zGd0, ↓zGd1, ↓zGd2, ↓zGd3, ↓zGd4, zGp0, startD, ↓List.map_cons, ↓List.map_nil, ↓List.length_cons, ↓List.length_nil, Nat.reduceAdd, Nat.reduceSub, Nat.sub_self, List.replicate, ↓List.cons_append, ↓List.nil_append, List.append_nil, ↓List.getElem?_cons_zero, ↓List.getElem?_cons_succ, ↓List.set_cons_zero, ↓List.set_cons_succ, wipeD, Bool.not_true, Bool.not_false, decide_true, decide_false, beq_self_eq_true, true_and, and_true, Nat.reduceLeDiff, toDs, toDk, toDs_sh, ↓zS_ii, ↓zS_bi, ↓zS_bb, ↓zS_tt, ↓zS_ll, ↓zS_lt, ↓zS_lk, ↓zS_cut3, ↓zS_r3, ↓zS_r3D, ↓zS_nonI, ↓zS_nonN, ↓zS_ownO]
    rw [atI_q (v := pcD z.1.2) (by omega) (by rw [Int.toNat_natCast, List.getElem?_map, z4]; rfl)]
    simp only [↓zHd0, zHp0, ↓zGd0, ↓zGd1, ↓zGd2, ↓zGd3, ↓zGd4, zGp0, startD, ↓List.map_cons, ↓List.map_nil, ↓List.length_cons, ↓List.length_nil, Nat.reduceAdd, Nat.reduceSub, Nat.sub_self, List.replicate, ↓List.cons_append, ↓List.nil_append, List.append_nil, ↓List.getElem?_cons_zero, ↓List.getElem?_cons_succ, ↓List.set_cons_zero, ↓List.set_cons_succ, wipeD, Bool.not_true, Bool.not_false, decide_true, decide_false, beq_self_eq_true, true_and, and_true, Nat.reduceLeDiff, toDs, toDk, toDs_sh, ↓zS_ii, ↓zS_bi, ↓zS_bb, ↓zS_tt, ↓zS_ll, ↓zS_lt, ↓zS_lk, ↓zS_cut3, ↓zS_r3, ↓zS_r3D, ↓zS_nonI, ↓zS_nonN, ↓zS_ownO]
    rw [mk]
    simp only [↓zHd0, zHp0, ↓zGd0, ↓zGd1, ↓zGd2, ↓zGd3, ↓zGd4, zGp0, startD, ↓List.map_cons, ↓List.map_nil, ↓List.length_cons, ↓List.length_nil, Nat.reduceAdd, Nat.reduceSub, Nat.sub_self, List.replicate, ↓List.cons_append, ↓List.nil_append, List.append_nil, ↓List.getElem?_cons_zero, ↓List.getElem?_cons_succ, ↓List.set_cons_zero, ↓List.set_cons_succ, wipeD, Bool.not_true, Bool.not_false, decide_true, decide_false, beq_self_eq_true, true_and, and_true, Nat.reduceLeDiff, toDs, toDk, toDs_sh, ↓zS_ii, ↓zS_bi, ↓zS_bb, ↓zS_tt, ↓zS_ll, ↓zS_lt, ↓zS_lk, ↓zS_cut3, ↓zS_r3, ↓zS_r3D, ↓zS_nonI, ↓zS_nonN, ↓zS_ownO]
    exact ltouch_ok hR
  · obtain ⟨z1, z2⟩ := zip_at0 hz
    simp only [↓zHd0, zHp0, ↓zGd0, ↓zGd1, ↓zGd2, ↓zGd3, ↓zGd4, zGp0, startD, ↓List.map_cons, ↓List.map_nil, ↓List.length_cons, ↓List.length_nil, Nat.reduceAdd, Nat.reduceSub, Nat.sub_self, List.replicate, ↓List.cons_append, ↓List.nil_append, List.append_nil, ↓List.getElem?_cons_zero, ↓List.getElem?_cons_succ, ↓List.set_cons_zero, ↓List.set_cons_succ, wipeD, Bool.not_true, Bool.not_false, decide_true, decide_false, beq_self_eq_true, true_and, and_true, Nat.reduceLeDiff, toDs, toDk, toDs_sh, ↓zS_ii, ↓zS_bi, ↓zS_bb, ↓zS_tt, ↓zS_ll, ↓zS_lt, ↓zS_lk, ↓zS_cut3, ↓zS_r3, ↓zS_r3D, ↓zS_nonI, ↓zS_nonN, ↓zS_ownO]
    rw [atI_q (v := D.int z.1.1) (by omega) (by rw [Int.toNat_natCast, List.getElem?_map, z2]; rfl)]
    simp only [↓zHd0, zHp0, ↓zGd0, ↓zGd1, ↓zGd2, ↓zGd3, ↓zGd4, zGp0, startD, ↓List.map_cons, ↓List.map_nil, ↓List.length_cons, ↓List.length_nil, Nat.reduceAdd, Nat.reduceSub, Nat.sub_self, List.replicate, ↓List.cons_append, ↓List.nil_append, List.append_nil, ↓List.getElem?_cons_zero, ↓List.getElem?_cons_succ, ↓List.set_cons_zero, ↓List.set_cons_succ, wipeD, Bool.not_true, Bool.not_false, decide_true, decide_false, beq_self_eq_true, true_and, and_true, Nat.reduceLeDiff, toDs, toDk, toDs_sh, ↓zS_ii, ↓zS_bi, ↓zS_bb, ↓zS_tt, ↓zS_ll, ↓zS_lt, ↓zS_lk, ↓zS_cut3, ↓zS_r3, ↓zS_r3D, ↓zS_nonI, ↓zS_nonN, ↓zS_ownO]
    exact hR
  · rw [List.nil_append, zip_fm (p := fun z : Lp => tch z.2 w[k]) (h := fun z : Lp => D.int (z.1 + 1))]
    have hf := List.length_filter_le (fun z : Lp => tch z.2 w[k]) acc
    refine ⟨by rw [List.length_map, sizeLine_eq]; omega, mxl_ok ?_⟩
    refine ⟨rfl, by rw [List.length_map, List.length_map, sizeLine_eq]; omega, ?_⟩
    rw [lvi, List.map_append, List.map_append] at hN
    exact hN
theorem lvl_2 {W : DEnds} {w : List Pc} {v : V} {o3 o4 : Option SD} (hw : Okl w) (hl : w.length ≤ 1000) : ∀ (n k : Nat) (o2 : Option SD), k + n = w.length → (∀ o2, W.nx [some (.sh (lD w)), some (.ow v (.lst ((lvi (lev [] w)).map .sh))), o2, o3, o4]) →
    forD (gN 2) b__law_leveled_1 W (ups k n) [some (.sh (lD w)), some (.ow v (.lst ((lvi (lev [] (w.take k))).map .sh))), o2, o3, o4]
  | 0, k, o2, h, hN => by
    rw [List.take_of_length_le (by omega)]
    exact hN o2
  | n + 1, k, o2, h, hN => by
    rw [ups_succ, forD_c]
    show b__law_leveled_1 _ [some (.sh (lD w)), some (.ow v (.lst ((lvi (lev [] (w.take k))).map .sh))), some (.sh (.int k)), o3, o4]
    refine lvl_1 hw hl (by omega) ?_
    rw [show (k : Int) + 1 = ((k + 1 : Nat) : Int) by omega]
    exact lvl_2 hw hl n (k + 1) _ (by omega) hN
theorem leveled_ok {w : List Pc} {Q : D → Prop} (hw : Okl w) (hl : w.length ≤ 63) (hq : ∀ L : List Int, L.Pairwise (· < ·) → (∀ k, k ∈ L ↔ ∃ y ∈ lev [] w, y.1 = k) → L.length ≤ 1000 → Q (.lst (L.map fun k => lD (srtP (atV (lev [] w) k))))) : S__law_leveled [lD w] Q := by
  refine ⟨rfl, ?_⟩
  show t__law_leveled _ [some (.sh (lD w)), none, none, none, none]
  unfold lD
  simp only [t__law_leveled, ↓zHd0, zHp0, ↓zGd0, ↓zGd1, ↓zGd2, ↓zGd3, ↓zGd4, zGp0, startD, ↓List.map_cons, ↓List.map_nil, ↓List.length_cons, ↓List.length_nil, Nat.reduceAdd, Nat.reduceSub, Nat.sub_self, List.replicate, ↓List.cons_append, ↓List.nil_append, List.append_nil, ↓List.getElem?_cons_zero, ↓List.getElem?_cons_succ, ↓List.set_cons_zero, ↓List.set_cons_succ, wipeD, Bool.not_true, Bool.not_false, decide_true, decide_false, beq_self_eq_true, true_and, and_true, Nat.reduceLeDiff, toDs, toDk, toDs_sh, ↓zS_ii, ↓zS_bi, ↓zS_bb, ↓zS_tt, ↓zS_ll, ↓zS_lt, ↓zS_lk, ↓zS_cut3, ↓zS_r3, ↓zS_r3D, ↓zS_nonI, ↓zS_nonN, ↓zS_ownO]
  intro v
  rw [List.length_map, Int.toNat_natCast]
  refine ⟨⟨by omega, by omega⟩, ?_⟩
  refine lvl_2 hw (by omega) w.length 0 none (by omega) fun o2 => ?_
  simp only [toDs_sh, ↓zHd0, zHp0, ↓zGd0, ↓zGd1, ↓zGd2, ↓zGd3, ↓zGd4, zGp0, startD, ↓List.map_cons, ↓List.map_nil, ↓List.length_cons, ↓List.length_nil, Nat.reduceAdd, Nat.reduceSub, Nat.sub_self, List.replicate, ↓List.cons_append, ↓List.nil_append, List.append_nil, ↓List.getElem?_cons_zero, ↓List.getElem?_cons_succ, ↓List.set_cons_zero, ↓List.set_cons_succ, wipeD, Bool.not_true, Bool.not_false, decide_true, decide_false, beq_self_eq_true, true_and, and_true, Nat.reduceLeDiff, toDs, toDk, toDs_sh, ↓zS_ii, ↓zS_bi, ↓zS_bb, ↓zS_tt, ↓zS_ll, ↓zS_lt, ↓zS_lk, ↓zS_cut3, ↓zS_r3, ↓zS_r3D, ↓zS_nonI, ↓zS_nonN, ↓zS_ownO]
  have es : ∀ QL : List D → Prop, setL [.lst (lvi (lev [] w))] QL = ((((lev [] w).map (·.1)).length < 64) ∧ ∀ ns : List Int, ns.Pairwise (· < ·) → (∀ k : Int, k ∈ ns ↔ k ∈ (lev [] w).map (·.1)) → QL (ns.map .int)) := fun QL => by
    rw [← z_setL, List.map_map]
    rfl
  have hz : (lev [] w).length = w.length := by rw [lev_len, List.length_nil, Nat.zero_add]
  rw [es]
  refine ⟨by rw [List.length_map]; omega, fun ns n1 n2 => ?_⟩
  have nl : ns.length ≤ 1000 := by
    have := List.Nodup.length_le_of_subset (n1.imp fun {a b} h => (by omega : a ≠ b)) (fun k hk => (n2 k).mp hk : ns ⊆ (lev [] w).map (·.1))
    rw [List.length_map] at this
    omega
  refine ⟨pl_sz (by omega), ?_⟩
  refine lc_of (α := Int) D.int (fun k => lD (srtP (atV (lev [] w) k))) ns [] (fun k hk R hR => ?_) (by rw [List.nil_append]; exact hq ns n1 (fun k => (n2 k).trans List.mem_map) nl)
  unfold lD at hR ⊢
  simp only [↓zHd0, zHp0, ↓zGd0, ↓zGd1, ↓zGd2, ↓zGd3, ↓zGd4, zGp0, startD, ↓List.map_cons, ↓List.map_nil, ↓List.length_cons, ↓List.length_nil, Nat.reduceAdd, Nat.reduceSub, Nat.sub_self, List.replicate, ↓List.cons_append, ↓List.nil_append, List.append_nil, ↓List.getElem?_cons_zero, ↓List.getElem?_cons_succ, ↓List.set_cons_zero, ↓List.set_cons_succ, wipeD, Bool.not_true, Bool.not_false, decide_true, decide_false, beq_self_eq_true, true_and, and_true, Nat.reduceLeDiff, toDs, toDk, toDs_sh, ↓zS_ii, ↓zS_bi, ↓zS_bb, ↓zS_tt, ↓zS_ll, ↓zS_lt, ↓zS_lk, ↓zS_cut3, ↓zS_r3, ↓zS_r3D, ↓zS_nonI, ↓zS_nonN, ↓zS_ownO]
  rw [List.length_map, Int.toNat_natCast, ← hz, ups_zip0]
  refine ⟨⟨by omega, by omega⟩, by rw [List.length_map, List.length_zipIdx, sizeLine_eq]; omega, ?_⟩
  have el : ∀ z, z ∈ (lev [] w).zipIdx → z.2 < w.length ∧ (lev [] w)[z.2]? = some z.1 ∧ w[z.2]? = some z.1.2 := fun z hz => by
    obtain ⟨z1, z2⟩ := zip_at0 hz
    have := lev_at (w := w) (k := w.length) (i := z.2) (z := z.1) (by rw [List.take_of_length_le (Nat.le_refl _)]; exact z2)
    exact ⟨this.1, z2, this.2⟩
  refine lc_fofG (fun z : Lp × Nat => D.int z.2) (fun z => pcD z.1.2) (fun z => [some (.sh (.lst (w.map pcD))), some (.sh (.lst (lvi (lev [] w)))), o2, some (.sh (.int z.2)), some (.sh (.int k))]) (fun z => decide (z.1.1 = k)) (lev [] w).zipIdx [] (fun z _ F hF => hF) (fun z hz R hR => ?_) (fun z hz _ R hR => ?_) ?_
  · obtain ⟨z1, z2, z3⟩ := el z hz
    simp only [↓zHd0, zHp0, ↓zGd0, ↓zGd1, ↓zGd2, ↓zGd3, ↓zGd4, zGp0, startD, ↓List.map_cons, ↓List.map_nil, ↓List.length_cons, ↓List.length_nil, Nat.reduceAdd, Nat.reduceSub, Nat.sub_self, List.replicate, ↓List.cons_append, ↓List.nil_append, List.append_nil, ↓List.getElem?_cons_zero, ↓List.getElem?_cons_succ, ↓List.set_cons_zero, ↓List.set_cons_succ, wipeD, Bool.not_true, Bool.not_false, decide_true, decide_false, beq_self_eq_true, true_and, and_true, Nat.reduceLeDiff, toDs, toDk, toDs_sh, ↓zS_ii, ↓zS_bi, ↓zS_bb, ↓zS_tt, ↓zS_ll, ↓zS_lt, ↓zS_lk, ↓zS_cut3, ↓zS_r3, ↓zS_r3D, ↓zS_nonI, ↓zS_nonN, ↓zS_ownO]
    rw [atI_q (v := D.int z.1.1) (by omega) (by rw [Int.toNat_natCast, List.getElem?_map, z2]; rfl)]
    simp only [↓zHd0, zHp0, ↓zGd0, ↓zGd1, ↓zGd2, ↓zGd3, ↓zGd4, zGp0, startD, ↓List.map_cons, ↓List.map_nil, ↓List.length_cons, ↓List.length_nil, Nat.reduceAdd, Nat.reduceSub, Nat.sub_self, List.replicate, ↓List.cons_append, ↓List.nil_append, List.append_nil, ↓List.getElem?_cons_zero, ↓List.getElem?_cons_succ, ↓List.set_cons_zero, ↓List.set_cons_succ, wipeD, Bool.not_true, Bool.not_false, decide_true, decide_false, beq_self_eq_true, true_and, and_true, Nat.reduceLeDiff, toDs, toDk, toDs_sh, ↓zS_ii, ↓zS_bi, ↓zS_bb, ↓zS_tt, ↓zS_ll, ↓zS_lt, ↓zS_lk, ↓zS_cut3, ↓zS_r3, ↓zS_r3D, ↓zS_nonI, ↓zS_nonN, ↓zS_ownO]
    exact hR
  · obtain ⟨z1, z2, z3⟩ := el z hz
    simp only [↓zHd0, zHp0, ↓zGd0, ↓zGd1, ↓zGd2, ↓zGd3, ↓zGd4, zGp0, startD, ↓List.map_cons, ↓List.map_nil, ↓List.length_cons, ↓List.length_nil, Nat.reduceAdd, Nat.reduceSub, Nat.sub_self, List.replicate, ↓List.cons_append, ↓List.nil_append, List.append_nil, ↓List.getElem?_cons_zero, ↓List.getElem?_cons_succ, ↓List.set_cons_zero, ↓List.set_cons_succ, wipeD, Bool.not_true, Bool.not_false, decide_true, decide_false, beq_self_eq_true, true_and, and_true, Nat.reduceLeDiff, toDs, toDk, toDs_sh, ↓zS_ii, ↓zS_bi, ↓zS_bb, ↓zS_tt, ↓zS_ll, ↓zS_lt, ↓zS_lk, ↓zS_cut3, ↓zS_r3, ↓zS_r3D, ↓zS_nonI, ↓zS_nonN, ↓zS_ownO]
    rw [atI_q (v := pcD z.1.2) (by omega) (by rw [Int.toNat_natCast, List.getElem?_map, z3]; rfl)]
    exact hR
  · rw [List.nil_append, zip_fm (p := fun z : Lp => decide (z.1 = k)) (h := fun z : Lp => pcD z.2)]
    have e : ((lev [] w).filter fun z => decide (z.1 = k)).map (fun z : Lp => pcD z.2) = (atV (lev [] w) k).map pcD := by
      unfold atV
      rw [List.map_map]; rfl
    rw [e]
    refine ⟨srt_pcs fun x hx => ?_, ?_⟩
    · obtain ⟨y, hy, rfl⟩ := List.mem_map.mp hx
      exact hw _ (lev_mem (List.mem_filter.mp hy).1)
    · rw [sort_p]
      exact hR
theorem heaped_ok {w : List Pc} {Q : D → Prop} (hw : Okl w) (hl : w.length ≤ 63) (hq : Q (lD (Nn w))) : S__law_heaped [lD w] Q := by
  refine ⟨rfl, ?_⟩
  show t__law_heaped _ [some (.sh (lD w))]
  simp only [t__law_heaped, ↓zHd0, zHp0, ↓zGd0, ↓zGd1, ↓zGd2, ↓zGd3, ↓zGd4, zGp0, startD, ↓List.map_cons, ↓List.map_nil, ↓List.length_cons, ↓List.length_nil, Nat.reduceAdd, Nat.reduceSub, Nat.sub_self, List.replicate, ↓List.cons_append, ↓List.nil_append, List.append_nil, ↓List.getElem?_cons_zero, ↓List.getElem?_cons_succ, ↓List.set_cons_zero, ↓List.set_cons_succ, wipeD, Bool.not_true, Bool.not_false, decide_true, decide_false, beq_self_eq_true, true_and, and_true, Nat.reduceLeDiff, toDs, toDk, toDs_sh, ↓zS_ii, ↓zS_bi, ↓zS_bb, ↓zS_tt, ↓zS_ll, ↓zS_lt, ↓zS_lk, ↓zS_cut3, ↓zS_r3, ↓zS_r3D, ↓zS_nonI, ↓zS_nonN, ↓zS_ownO]
  refine left_ok hw (by omega) fun u h1 h2 h3 h4 => ?_
  refine leveled_ok h1 (by omega) fun L l1 l2 l3 => ?_
  have e : (L.map fun k => srtP (atV (lev [] u) k)).flatten = Nn w := by rw [nf_groups l1 fun y hy => (l2 _).mpr ⟨y, hy, rfl⟩, ← Nn_none h4, Nn_q h3]
  refine ⟨L.map fun k => (srtP (atV (lev [] u) k)).map pcD, by rw [List.map_map]; rfl, ?_⟩
  have e2 : (L.map fun k => (srtP (atV (lev [] u) k)).map pcD).flatten = (Nn w).map pcD := by
    rw [← e, List.map_flatten, List.map_map]; rfl
  rw [List.nil_append, e2]
  exact ⟨pl_sz (by have := Nn_le w; omega), hq⟩
theorem wrd_wt : ∀ u : List Pc, wtL (u.map pcD) ≤ 7000 * u.length
  | [] => by rw [List.map_nil, wtL]; exact Nat.zero_le _
  | a :: l => by
    have := wrd_wt l
    have e : D.wt (pcD a) ≤ 6900 := by
      obtain ⟨i, j, b, c⟩ := a
      rw [show D.wt (pcD (i, j, b, c)) = 4022 from rfl]
      decide
    rw [List.map_cons, wtL, List.length_cons]
    omega
theorem lD_wt {u : List Pc} (h : u.length ≤ 1000) : (lD u).wt ≤ 16000000 := by
  have := wrd_wt u
  show wtL (u.map pcD) + 4 ≤ _
  omega
theorem alike_x {d : D} {Q : D → Prop} (e1 : ∀ Q : D → Prop, oEq d d Q = ((DL.plain d = true ∧ DL.plain d = true) ∧ Q (.bl (eqb d d)))) (hp : DL.plain d = true) (hw : d.wt ≤ 16000000) (hq : Q (.bl true)) : S__law_alike [d, d] Q := by
  have e2 : ∀ Q : D → Prop, cRepr [d] Q = ((DL.plain d = true ∧ d.wt ≤ 16000000) ∧ Q (.str d.py.shown)) := fun Q => propext Iff.rfl
  refine ⟨rfl, ?_⟩
  show t__law_alike _ [some (.sh d), some (.sh d)]
  simp only [t__law_alike, ↓zHd0, zHp0, ↓zGd0, ↓zGd1, ↓zGd2, ↓zGd3, ↓zGd4, zGp0, startD, ↓List.map_cons, ↓List.map_nil, ↓List.length_cons, ↓List.length_nil, Nat.reduceAdd, Nat.reduceSub, Nat.sub_self, List.replicate, ↓List.cons_append, ↓List.nil_append, List.append_nil, ↓List.getElem?_cons_zero, ↓List.getElem?_cons_succ, ↓List.set_cons_zero, ↓List.set_cons_succ, wipeD, Bool.not_true, Bool.not_false, decide_true, decide_false, beq_self_eq_true, true_and, and_true, Nat.reduceLeDiff, toDs, toDk, toDs_sh, ↓zS_ii, ↓zS_bi, ↓zS_bb, ↓zS_tt, ↓zS_ll, ↓zS_lt, ↓zS_lk, ↓zS_cut3, ↓zS_r3, ↓zS_r3D, ↓zS_nonI, ↓zS_nonN, ↓zS_ownO]
  rw [e1]
  refine ⟨⟨hp, hp⟩, ?_⟩
  rw [eqb_refl (Bool.and_eq_true_iff.mp hp).1]
  try simp only [↓zHd0, zHp0, ↓zGd0, ↓zGd1, ↓zGd2, ↓zGd3, ↓zGd4, zGp0, startD, ↓List.map_cons, ↓List.map_nil, ↓List.length_cons, ↓List.length_nil, Nat.reduceAdd, Nat.reduceSub, Nat.sub_self, List.replicate, ↓List.cons_append, ↓List.nil_append, List.append_nil, ↓List.getElem?_cons_zero, ↓List.getElem?_cons_succ, ↓List.set_cons_zero, ↓List.set_cons_succ, wipeD, Bool.not_true, Bool.not_false, decide_true, decide_false, beq_self_eq_true, true_and, and_true, Nat.reduceLeDiff, toDs, toDk, toDs_sh, ↓zS_ii, ↓zS_bi, ↓zS_bb, ↓zS_tt, ↓zS_ll, ↓zS_lt, ↓zS_lk, ↓zS_cut3, ↓zS_r3, ↓zS_r3D, ↓zS_nonI, ↓zS_nonN, ↓zS_ownO]
  rw [e2]
  refine ⟨⟨hp, hw⟩, ?_⟩
  rw [e2]
  refine ⟨⟨hp, hw⟩, ?_⟩
  try simp only [↓zHd0, zHp0, ↓zGd0, ↓zGd1, ↓zGd2, ↓zGd3, ↓zGd4, zGp0, startD, ↓List.map_cons, ↓List.map_nil, ↓List.length_cons, ↓List.length_nil, Nat.reduceAdd, Nat.reduceSub, Nat.sub_self, List.replicate, ↓List.cons_append, ↓List.nil_append, List.append_nil, ↓List.getElem?_cons_zero, ↓List.getElem?_cons_succ, ↓List.set_cons_zero, ↓List.set_cons_succ, wipeD, Bool.not_true, Bool.not_false, decide_true, decide_false, beq_self_eq_true, true_and, and_true, Nat.reduceLeDiff, toDs, toDk, toDs_sh, ↓zS_ii, ↓zS_bi, ↓zS_bb, ↓zS_tt, ↓zS_ll, ↓zS_lt, ↓zS_lk, ↓zS_cut3, ↓zS_r3, ↓zS_r3D, ↓zS_nonI, ↓zS_nonN, ↓zS_ownO]
  try rw [decide_eq_true rfl]
  exact hq
theorem alike_l {xs : List D} {Q : D → Prop} (hp : DL.plain (.lst xs) = true) (hw : (D.lst xs).wt ≤ 16000000) (hq : Q (.bl true)) : S__law_alike [.lst xs, .lst xs] Q := alike_x (fun Q => propext Iff.rfl) hp hw hq
theorem asc_uniq : ∀ {u v : List Int}, u.Pairwise (· < ·) → v.Pairwise (· < ·) → (∀ k, k ∈ u ↔ k ∈ v) → u = v
  | [], [], _, _, _ => rfl
  | [], y :: v, _, _, h => nomatch (h y).mpr List.mem_cons_self
  | x :: u, [], _, _, h => nomatch (h x).mp List.mem_cons_self
  | x :: u, y :: v, hu, hv, h => by
    have pu := List.pairwise_cons.mp hu
    have pv := List.pairwise_cons.mp hv
    have e : x = y := by
      rcases List.mem_cons.mp ((h x).mp List.mem_cons_self) with e | hx
      · exact e
      · rcases List.mem_cons.mp ((h y).mpr List.mem_cons_self) with e | hy
        · exact e.symm
        · have := pv.1 x hx
          have := pu.1 y hy
          omega
    subst e
    rw [asc_uniq pu.2 pv.2 fun k => ?_]
    constructor
    · intro hk
      rcases List.mem_cons.mp ((h k).mp (List.mem_cons_of_mem _ hk)) with e | q
      · have := pu.1 k hk; omega
      · exact q
    · intro hk
      rcases List.mem_cons.mp ((h k).mpr (List.mem_cons_of_mem _ hk)) with e | q
      · have := pv.1 k hk; omega
      · exact q
def fr : List Pc → List Pc → List Pc
  | _, [] => []
  | pre, p :: r => if pre.all (fun x => !tch x p) = true then p :: fr (pre ++ [p]) r else fr (pre ++ [p]) r
def ls : List Pc → List Pc
  | [] => []
  | p :: r => if r.all (fun x => !tch x p) = true then p :: ls r else ls r
theorem fr_zip : ∀ (r pre : List Pc), ((r.zipIdx pre.length).filter fun z => ((pre ++ r).take z.2).all fun x => !tch x z.1).map (·.1) = fr pre r
  | [], _ => rfl
  | p :: r, pre => by
    have ih := fr_zip r (pre ++ [p])
    rw [List.append_assoc, List.length_append, List.length_singleton] at ih
    rw [List.zipIdx_cons, List.filter_cons, fr]
    show (if ((pre ++ p :: r).take pre.length).all (fun x => !tch x p) = true then _ else _ : List (Pc × Nat)).map _ = _
    rw [List.take_left]
    by_cases c : pre.all (fun x => !tch x p) = true
    · rw [if_pos c, if_pos c, List.map_cons]
      exact congrArg _ ih
    · rw [if_neg c, if_neg c]
      exact ih
theorem fr_zip0 (A : List Pc) : (A.zipIdx.filter fun z => (A.take z.2).all fun x => !tch x z.1).map (·.1) = fr [] A := fr_zip A []
theorem ls_zip : ∀ (r pre : List Pc), ((r.zipIdx pre.length).filter fun z => ((pre ++ r).drop (z.2 + 1)).all fun x => !tch x z.1).map (·.1) = ls r
  | [], _ => rfl
  | p :: r, pre => by
    have ih := ls_zip r (pre ++ [p])
    rw [List.append_assoc, List.length_append, List.length_singleton] at ih
    rw [List.zipIdx_cons, List.filter_cons, ls]
    show (if ((pre ++ p :: r).drop (pre.length + 1)).all (fun x => !tch x p) = true then _ else _ : List (Pc × Nat)).map _ = _
    rw [List.drop_append, List.drop_of_length_le (by omega), show pre.length + 1 - pre.length = 1 by omega]
    show (if r.all (fun x => !tch x p) = true then _ else _ : List (Pc × Nat)).map _ = _
    by_cases c : r.all (fun x => !tch x p) = true
    · rw [if_pos c, if_pos c, List.map_cons]
      exact congrArg _ ih
    · rw [if_neg c, if_neg c]
      exact ih
theorem ls_zip0 (A : List Pc) : (A.zipIdx.filter fun z => (A.drop (z.2 + 1)).all fun x => !tch x z.1).map (·.1) = ls A := ls_zip A []
theorem fr_snoc (p : Pc) : ∀ u pre : List Pc, fr pre (u ++ [p]) = fr pre u ++ if (pre ++ u).all (fun x => !tch x p) = true then [p] else []
  | [], pre => by
    rw [List.nil_append, fr, fr, fr, List.append_nil]
    by_cases c : pre.all (fun x => !tch x p) = true
    · rw [if_pos c]; rfl
    · rw [if_neg c]; rfl
  | q :: u, pre => by
    have ih := fr_snoc p u (pre ++ [q])
    rw [List.append_assoc] at ih
    rw [List.cons_append, fr, fr, ih]
    by_cases c : pre.all (fun x => !tch x q) = true
    · rw [if_pos c, if_pos c]; rfl
    · rw [if_neg c, if_neg c]; rfl
theorem fr_rev : ∀ A : List Pc, fr [] A.reverse = (ls A).reverse
  | [] => rfl
  | p :: r => by
    rw [List.reverse_cons, fr_snoc, fr_rev r, ls, List.nil_append]
    have e : r.reverse.all (fun x => !tch x p) = r.all (fun x => !tch x p) := List.all_reverse
    rw [e]
    by_cases c : r.all (fun x => !tch x p) = true
    · rw [if_pos c, if_pos c, List.reverse_cons]
    · rw [if_neg c, if_neg c, List.append_nil]
theorem mxl_zero {acc : List Lp} {p : Pc} (h : ∀ z ∈ acc, 0 ≤ z.1) : mxl acc p = 0 ↔ (acc.map (·.2)).all (fun x => !tch x p) = true := by
  constructor
  · intro e
    rw [List.all_eq_true]
    intro x hx
    obtain ⟨z, hz, rfl⟩ := List.mem_map.mp hx
    cases t : tch z.2 p with
    | false => rfl
    | true =>
      have := mxl_ge hz t
      have := h z hz
      omega
  · intro a
    rw [List.all_eq_true] at a
    unfold mxl
    rw [List.filter_eq_nil_iff.mpr fun z hz t => by
      have := a z.2 (List.mem_map_of_mem hz)
      rw [t] at this
      cases this]
    rfl
theorem lv_fr : ∀ (r : List Pc) (acc : List Lp), (∀ z ∈ acc, 0 ≤ z.1) → ((lev acc r).filter fun z => decide (z.1 = 0)).map (·.2) = ((acc.filter fun z => decide (z.1 = 0)).map (·.2)) ++ fr (acc.map (·.2)) r
  | [], acc, _ => by rw [lev, fr, List.append_nil]
  | p :: r, acc, h => by
    have h0 : 0 ≤ mxl acc p := fmx_le (.inl rfl)
    have ih := lv_fr r (acc ++ [(mxl acc p, p)]) fun z hz => by
      rcases List.mem_append.mp hz with q | q
      · exact h z q
      · rw [List.mem_singleton.mp q]; exact h0
    rw [List.filter_append, List.map_append, List.map_append, List.append_assoc] at ih
    show ((lev (acc ++ [(mxl acc p, p)]) r).filter fun z => decide (z.1 = 0)).map (·.2) = _
    rw [ih, fr]
    congr 1
    have hm := mxl_zero (p := p) h
    show (([(mxl acc p, p)] : List Lp).filter fun z => decide (z.1 = 0)).map (·.2) ++ fr (acc.map (·.2) ++ [p]) r = _
    by_cases c : (acc.map (·.2)).all (fun x => !tch x p) = true
    · rw [if_pos c, List.filter_cons, if_pos (decide_eq_true (hm.mpr c))]
      rfl
    · rw [if_neg c, List.filter_cons, if_neg (fun z => c (hm.mp (of_decide_eq_true z)))]
      rfl
theorem lv0_fr (A : List Pc) : lv0 A = fr [] A := by
  have := lv_fr A [] (fun _ h => nomatch h)
  rw [List.filter_nil, List.map_nil, List.nil_append] at this
  exact this
theorem firsts_fr (A : List Pc) : firstsF A = srtP (fr [] A) := by
  rw [← lv0_fr]
  exact srtP_perm (lv0s_perm A)
theorem lasts_ls (A : List Pc) : firstsF A.reverse = srtP (ls A) := by
  rw [firsts_fr, fr_rev]
  exact srtP_perm (List.reverse_perm _)
theorem fr_mem : ∀ {r pre : List Pc} {x : Pc}, x ∈ fr pre r → x ∈ r
  | [], _, _, h => by cases h
  | p :: r, pre, x, h => by
    rw [fr] at h
    by_cases c : pre.all (fun x => !tch x p) = true
    · rw [if_pos c] at h
      rcases List.mem_cons.mp h with rfl | h
      · exact List.mem_cons_self
      · exact List.mem_cons_of_mem _ (fr_mem h)
    · rw [if_neg c] at h
      exact List.mem_cons_of_mem _ (fr_mem h)
theorem ls_mem : ∀ {r : List Pc} {x : Pc}, x ∈ ls r → x ∈ r
  | [], _, h => by cases h
  | p :: r, x, h => by
    rw [ls] at h
    by_cases c : r.all (fun x => !tch x p) = true
    · rw [if_pos c] at h
      rcases List.mem_cons.mp h with rfl | h
      · exact List.mem_cons_self
      · exact List.mem_cons_of_mem _ (ls_mem h)
    · rw [if_neg c] at h
      exact List.mem_cons_of_mem _ (ls_mem h)
theorem fr_len : ∀ (r pre : List Pc), (fr pre r).length ≤ r.length
  | [], _ => Nat.le_refl _
  | p :: r, pre => by
    have := fr_len r (pre ++ [p])
    rw [fr]
    by_cases c : pre.all (fun x => !tch x p) = true
    · rw [if_pos c, List.length_cons, List.length_cons]; omega
    · rw [if_neg c, List.length_cons]; omega
theorem ls_len : ∀ r : List Pc, (ls r).length ≤ r.length
  | [] => Nat.le_refl _
  | p :: r => by
    have := ls_len r
    rw [ls]
    by_cases c : r.all (fun x => !tch x p) = true
    · rw [if_pos c, List.length_cons, List.length_cons]; omega
    · rw [if_neg c, List.length_cons]; omega
section
variable {A B : List Pc} {Q : OD → Prop}
theorem lv0s_okl (ha : Okl A) : Okl (firstsF.lv0s A) := fun x hx => by
  obtain ⟨z, hz, rfl⟩ := List.mem_map.mp hx
  exact ha _ (lev_mem (List.mem_mergeSort.mp (List.mem_filter.mp hz).1))
theorem firsts_ok (ha : Okl A) (hl : A.length ≤ 100000) (hq : Q (oP (firstsF A))) : S_Heap_firsts [hpD A] Q := by
  refine ⟨rfl, ?_⟩
  unfold hpD
  simp only [t_Heap_firsts, ↓zHd0, zHp0, ↓zGd0, ↓zGd1, ↓zGd2, ↓zGd3, ↓zGd4, zGp0, startD, ↓List.map_cons, ↓List.map_nil, ↓List.length_cons, ↓List.length_nil, Nat.reduceAdd, Nat.reduceSub, Nat.sub_self, List.replicate, ↓List.cons_append, ↓List.nil_append, List.append_nil, ↓List.getElem?_cons_zero, ↓List.getElem?_cons_succ, ↓List.set_cons_zero, ↓List.set_cons_succ, wipeD, Bool.not_true, Bool.not_false, decide_true, decide_false, beq_self_eq_true, true_and, and_true, Nat.reduceLeDiff, toDs, toDk, toDs_sh, ↓zS_ii, ↓zS_bi, ↓zS_bb, ↓zS_tt, ↓zS_ll, ↓zS_lt, ↓zS_lk, ↓zS_cut3, ↓zS_r3, ↓zS_r3D, ↓zS_nonI, ↓zS_nonN, ↓zS_ownO]
  refine with_ok ha hl ?_
  simp only [↓zHd0, zHp0, ↓zGd0, ↓zGd1, ↓zGd2, ↓zGd3, ↓zGd4, zGp0, startD, ↓List.map_cons, ↓List.map_nil, ↓List.length_cons, ↓List.length_nil, Nat.reduceAdd, Nat.reduceSub, Nat.sub_self, List.replicate, ↓List.cons_append, ↓List.nil_append, List.append_nil, ↓List.getElem?_cons_zero, ↓List.getElem?_cons_succ, ↓List.set_cons_zero, ↓List.set_cons_succ, wipeD, Bool.not_true, Bool.not_false, decide_true, decide_false, beq_self_eq_true, true_and, and_true, Nat.reduceLeDiff, toDs, toDk, toDs_sh, ↓zS_ii, ↓zS_bi, ↓zS_bb, ↓zS_tt, ↓zS_ll, ↓zS_lt, ↓zS_lk, ↓zS_cut3, ↓zS_r3, ↓zS_r3D, ↓zS_nonI, ↓zS_nonN, ↓zS_ownO]
  refine ⟨pl_sz (by rw [List.length_mergeSort, lev_len, List.length_nil]; omega), ?_⟩
  refine lc_fofG lpD (fun z => pcD z.2) (fun z => [some (.sh (.obj 5 [lD A])), some (.sh (.int z.1)), some (.sh (pcD z.2))]) (fun z => decide (z.1 = 0)) _ [] (fun z _ F hF => ?_) (fun z _ R hR => ?_) (fun z _ _ R hR => ?_) ?_
  · unfold lpD
    simp only [↓zHd0, zHp0, ↓zGd0, ↓zGd1, ↓zGd2, ↓zGd3, ↓zGd4, zGp0, startD, ↓List.map_cons, ↓List.map_nil, ↓List.length_cons, ↓List.length_nil, Nat.reduceAdd, Nat.reduceSub, Nat.sub_self, List.replicate, ↓List.cons_append, ↓List.nil_append, List.append_nil, ↓List.getElem?_cons_zero, ↓List.getElem?_cons_succ, ↓List.set_cons_zero, ↓List.set_cons_succ, wipeD, Bool.not_true, Bool.not_false, decide_true, decide_false, beq_self_eq_true, true_and, and_true, Nat.reduceLeDiff, toDs, toDk, toDs_sh, ↓zS_ii, ↓zS_bi, ↓zS_bb, ↓zS_tt, ↓zS_ll, ↓zS_lt, ↓zS_lk, ↓zS_cut3, ↓zS_r3, ↓zS_r3D, ↓zS_nonI, ↓zS_nonN, ↓zS_ownO]
    exact hF
  · simp only [↓zHd0, zHp0, ↓zGd0, ↓zGd1, ↓zGd2, ↓zGd3, ↓zGd4, zGp0, startD, ↓List.map_cons, ↓List.map_nil, ↓List.length_cons, ↓List.length_nil, Nat.reduceAdd, Nat.reduceSub, Nat.sub_self, List.replicate, ↓List.cons_append, ↓List.nil_append, List.append_nil, ↓List.getElem?_cons_zero, ↓List.getElem?_cons_succ, ↓List.set_cons_zero, ↓List.set_cons_succ, wipeD, Bool.not_true, Bool.not_false, decide_true, decide_false, beq_self_eq_true, true_and, and_true, Nat.reduceLeDiff, toDs, toDk, toDs_sh, ↓zS_ii, ↓zS_bi, ↓zS_bb, ↓zS_tt, ↓zS_ll, ↓zS_lt, ↓zS_lk, ↓zS_cut3, ↓zS_r3, ↓zS_r3D, ↓zS_nonI, ↓zS_nonN, ↓zS_ownO]
    exact hR
  · simp only [↓zHd0, zHp0, ↓zGd0, ↓zGd1, ↓zGd2, ↓zGd3, ↓zGd4, zGp0, startD, ↓List.map_cons, ↓List.map_nil, ↓List.length_cons, ↓List.length_nil, Nat.reduceAdd, Nat.reduceSub, Nat.sub_self, List.replicate, ↓List.cons_append, ↓List.nil_append, List.append_nil, ↓List.getElem?_cons_zero, ↓List.getElem?_cons_succ, ↓List.set_cons_zero, ↓List.set_cons_succ, wipeD, Bool.not_true, Bool.not_false, decide_true, decide_false, beq_self_eq_true, true_and, and_true, Nat.reduceLeDiff, toDs, toDk, toDs_sh, ↓zS_ii, ↓zS_bi, ↓zS_bb, ↓zS_tt, ↓zS_ll, ↓zS_lt, ↓zS_lk, ↓zS_cut3, ↓zS_r3, ↓zS_r3D, ↓zS_nonI, ↓zS_nonN, ↓zS_ownO]
    exact hR
  · have e : ((((lev [] A).mergeSort leL).filter fun z => decide (z.1 = 0)).map fun z => pcD z.2) = (firstsF.lv0s A).map pcD := by
      unfold firstsF.lv0s
      rw [List.map_map]; rfl
    rw [List.nil_append, e]
    refine ⟨srt_pcs (lv0s_okl ha), ?_⟩
    rw [sort_p]
    exact hq
theorem lasts_ok (ha : Okl A) (hl : A.length ≤ 100000) (hq : Q (oP (firstsF A.reverse))) : S_Heap_lasts [hpD A] Q := by
  have hr : Okl A.reverse := fun x hx => ha x (List.mem_reverse.mp hx)
  refine ⟨rfl, ?_⟩
  unfold hpD lD
  simp only [t_Heap_lasts, ↓zHd0, zHp0, ↓zGd0, ↓zGd1, ↓zGd2, ↓zGd3, ↓zGd4, zGp0, startD, ↓List.map_cons, ↓List.map_nil, ↓List.length_cons, ↓List.length_nil, Nat.reduceAdd, Nat.reduceSub, Nat.sub_self, List.replicate, ↓List.cons_append, ↓List.nil_append, List.append_nil, ↓List.getElem?_cons_zero, ↓List.getElem?_cons_succ, ↓List.set_cons_zero, ↓List.set_cons_succ, wipeD, Bool.not_true, Bool.not_false, decide_true, decide_false, beq_self_eq_true, true_and, and_true, Nat.reduceLeDiff, toDs, toDk, toDs_sh, ↓zS_ii, ↓zS_bi, ↓zS_bb, ↓zS_tt, ↓zS_ll, ↓zS_lt, ↓zS_lk, ↓zS_cut3, ↓zS_r3, ↓zS_r3D, ↓zS_nonI, ↓zS_nonN, ↓zS_ownO]
  rw [← List.map_reverse]
  refine with_ok (u := A.reverse) hr (by rw [List.length_reverse]; exact hl) ?_
  simp only [↓zHd0, zHp0, ↓zGd0, ↓zGd1, ↓zGd2, ↓zGd3, ↓zGd4, zGp0, startD, ↓List.map_cons, ↓List.map_nil, ↓List.length_cons, ↓List.length_nil, Nat.reduceAdd, Nat.reduceSub, Nat.sub_self, List.replicate, ↓List.cons_append, ↓List.nil_append, List.append_nil, ↓List.getElem?_cons_zero, ↓List.getElem?_cons_succ, ↓List.set_cons_zero, ↓List.set_cons_succ, wipeD, Bool.not_true, Bool.not_false, decide_true, decide_false, beq_self_eq_true, true_and, and_true, Nat.reduceLeDiff, toDs, toDk, toDs_sh, ↓zS_ii, ↓zS_bi, ↓zS_bb, ↓zS_tt, ↓zS_ll, ↓zS_lt, ↓zS_lk, ↓zS_cut3, ↓zS_r3, ↓zS_r3D, ↓zS_nonI, ↓zS_nonN, ↓zS_ownO]
  refine ⟨pl_sz (by rw [List.length_mergeSort, lev_len, List.length_nil, List.length_reverse]; omega), ?_⟩
  refine lc_fofG lpD (fun z => pcD z.2) (fun z => [some (.sh (.obj 5 [.lst (A.map pcD)])), some (.sh (.int z.1)), some (.sh (pcD z.2))]) (fun z => decide (z.1 = 0)) _ [] (fun z _ F hF => ?_) (fun z _ R hR => ?_) (fun z _ _ R hR => ?_) ?_
  · unfold lpD
    simp only [↓zHd0, zHp0, ↓zGd0, ↓zGd1, ↓zGd2, ↓zGd3, ↓zGd4, zGp0, startD, ↓List.map_cons, ↓List.map_nil, ↓List.length_cons, ↓List.length_nil, Nat.reduceAdd, Nat.reduceSub, Nat.sub_self, List.replicate, ↓List.cons_append, ↓List.nil_append, List.append_nil, ↓List.getElem?_cons_zero, ↓List.getElem?_cons_succ, ↓List.set_cons_zero, ↓List.set_cons_succ, wipeD, Bool.not_true, Bool.not_false, decide_true, decide_false, beq_self_eq_true, true_and, and_true, Nat.reduceLeDiff, toDs, toDk, toDs_sh, ↓zS_ii, ↓zS_bi, ↓zS_bb, ↓zS_tt, ↓zS_ll, ↓zS_lt, ↓zS_lk, ↓zS_cut3, ↓zS_r3, ↓zS_r3D, ↓zS_nonI, ↓zS_nonN, ↓zS_ownO]
    exact hF
  · simp only [↓zHd0, zHp0, ↓zGd0, ↓zGd1, ↓zGd2, ↓zGd3, ↓zGd4, zGp0, startD, ↓List.map_cons, ↓List.map_nil, ↓List.length_cons, ↓List.length_nil, Nat.reduceAdd, Nat.reduceSub, Nat.sub_self, List.replicate, ↓List.cons_append, ↓List.nil_append, List.append_nil, ↓List.getElem?_cons_zero, ↓List.getElem?_cons_succ, ↓List.set_cons_zero, ↓List.set_cons_succ, wipeD, Bool.not_true, Bool.not_false, decide_true, decide_false, beq_self_eq_true, true_and, and_true, Nat.reduceLeDiff, toDs, toDk, toDs_sh, ↓zS_ii, ↓zS_bi, ↓zS_bb, ↓zS_tt, ↓zS_ll, ↓zS_lt, ↓zS_lk, ↓zS_cut3, ↓zS_r3, ↓zS_r3D, ↓zS_nonI, ↓zS_nonN, ↓zS_ownO]
    exact hR
  · simp only [↓zHd0, zHp0, ↓zGd0, ↓zGd1, ↓zGd2, ↓zGd3, ↓zGd4, zGp0, startD, ↓List.map_cons, ↓List.map_nil, ↓List.length_cons, ↓List.length_nil, Nat.reduceAdd, Nat.reduceSub, Nat.sub_self, List.replicate, ↓List.cons_append, ↓List.nil_append, List.append_nil, ↓List.getElem?_cons_zero, ↓List.getElem?_cons_succ, ↓List.set_cons_zero, ↓List.set_cons_succ, wipeD, Bool.not_true, Bool.not_false, decide_true, decide_false, beq_self_eq_true, true_and, and_true, Nat.reduceLeDiff, toDs, toDk, toDs_sh, ↓zS_ii, ↓zS_bi, ↓zS_bb, ↓zS_tt, ↓zS_ll, ↓zS_lt, ↓zS_lk, ↓zS_cut3, ↓zS_r3, ↓zS_r3D, ↓zS_nonI, ↓zS_nonN, ↓zS_ownO]
    exact hR
  · have e : ((((lev [] A.reverse).mergeSort leL).filter fun z => decide (z.1 = 0)).map fun z => pcD z.2) = (firstsF.lv0s A.reverse).map pcD := by
      unfold firstsF.lv0s
      rw [List.map_map]; rfl
    rw [List.nil_append, e]
    refine ⟨srt_pcs (lv0s_okl hr), ?_⟩
    rw [sort_p]
    exact hq
end
theorem idx_i {v : Int → OD} : ∀ (l : List Int) (k : Int), k ∈ l → ∃ i, idxK (l.map fun k => (D.int k, v k)) (.int k) = some i ∧ l[i]? = some k
  | [], _, h => absurd h (by simp)
  | a :: l, k, h => by
    rw [List.map_cons, idx_cons, key_int]
    by_cases e : a = k
    · subst e
      rw [decide_eq_true rfl, if_pos rfl]
      exact ⟨0, rfl, rfl⟩
    · rw [decide_eq_false e, if_neg Bool.false_ne_true]
      obtain ⟨i, h1, h2⟩ := idx_i (v := v) l k ((List.mem_cons.mp h).resolve_left fun z => e z.symm)
      rw [h1]
      exact ⟨i + 1, rfl, h2⟩
theorem vl_i {W : List Nat → Prop} {v1 : V} {v : Int → OD} {l : List Int} {o0 o2 : Option SD} : ∀ (xs : List Int) (acc : List Nat) (o3 : Option SD), (∀ k ∈ xs, k ∈ l) →
    (∀ ns : List Nat, ns.length = xs.length → (∀ (i : Nat) (k : Int), xs[i]? = some k → ∃ n : Nat, ns[i]? = some n ∧ l[n]? = some k) → W (acc ++ ns)) →
    vL 1 (gN 2) (rDx (rVar 1) (dVar 2)) [o0, some (.ow v1 (.dic false (l.map fun k => (D.int k, v k)))), o3, o2] W (xs.map D.int) acc
  | [], acc, o3, _, hq => by
    rw [List.map_nil, vL_n]
    have := hq [] rfl fun i k h => by simp at h
    rw [List.append_nil] at this
    exact this
  | x :: xs, acc, o3, hl, hq => by
    obtain ⟨i, h1, h2⟩ := idx_i (v := v) l x (hl x List.mem_cons_self)
    have ih := vl_i (W := W) (v1 := v1) (v := v) (l := l) (o0 := o0) (o2 := o2) xs (acc ++ [i]) o3 (fun k hk => hl k (List.mem_cons_of_mem _ hk)) fun ns e hn => by
      have := hq (i :: ns) (by rw [List.length_cons, List.length_cons, e]) fun j k hj => by
        cases j with
        | zero => exact ⟨i, rfl, by rw [List.getElem?_cons_zero] at hj; cases hj; exact h2⟩
        | succ j => exact hn j k (by simpa using hj)
      rw [List.append_assoc]
      exact this
    rw [List.map_cons, vL_c]
    generalize vL 1 (gN 2) (rDx (rVar 1) (dVar 2)) [o0, some (.ow v1 (.dic false (l.map fun k => (D.int k, v k)))), o3, o2] W (xs.map D.int) = Z at ih ⊢
    simp only [↓zHd0, zHp0, ↓zGd0, ↓zGd1, ↓zGd2, ↓zGd3, ↓zGd4, zGp0, startD, ↓List.map_cons, ↓List.map_nil, ↓List.length_cons, ↓List.length_nil, Nat.reduceAdd, Nat.reduceSub, Nat.sub_self, List.replicate, ↓List.cons_append, ↓List.nil_append, List.append_nil, ↓List.getElem?_cons_zero, ↓List.getElem?_cons_succ, ↓List.set_cons_zero, ↓List.set_cons_succ, wipeD, Bool.not_true, Bool.not_false, decide_true, decide_false, beq_self_eq_true, true_and, and_true, Nat.reduceLeDiff, toDs, toDk, toDs_sh, ↓zS_ii, ↓zS_bi, ↓zS_bb, ↓zS_tt, ↓zS_ll, ↓zS_lt, ↓zS_lk, ↓zS_cut3, ↓zS_r3, ↓zS_r3D, ↓zS_nonI, ↓zS_nonN, ↓zS_ownO]
    show match idxK (l.map fun k => (D.int k, v k)) (.int x) with | some n => Z (acc ++ [n]) | none => False
    rw [h1]
    exact ih
theorem picks_i {l xs : List Int} {ns : List Nat} (hl : ns.length = xs.length) (h : ∀ (i : Nat) (k : Int), xs[i]? = some k → ∃ n : Nat, ns[i]? = some n ∧ l[n]? = some k) : (ns.map fun n => l[n]?) = xs.map some := by
  refine List.ext_getElem? fun i => ?_
  rw [List.getElem?_map, List.getElem?_map]
  cases e : xs[i]? with
  | none =>
    have : ns[i]? = none := List.getElem?_eq_none (by rw [hl]; exact List.getElem?_eq_none_iff.mp e)
    rw [this]
    rfl
  | some k =>
    obtain ⟨n, h1, h2⟩ := h i k e
    rw [h1]
    show some l[n]? = some (some k)
    rw [h2]
theorem pickO_i {v : Int → OD} {l xs : List Int} {ns : List Nat} (h : (ns.map fun n => l[n]?) = xs.map some) : pickO (l.map fun k => (D.int k, v k)) ns = xs.map v := by
  have e : pickO (l.map fun k => (D.int k, v k)) ns = (ns.map fun n => l[n]?).filterMap fun z => z.map v := by
    unfold pickO
    rw [List.filterMap_map]
    congr 1
    funext n
    show ((l.map fun k => (D.int k, v k))[n]?).map (·.2) = (l[n]?).map v
    rw [List.getElem?_map, Option.map_map]
    rfl
  rw [e, h, List.filterMap_map]
  clear e h
  induction xs with
  | nil => rfl
  | cons x xs ih =>
    rw [List.filterMap_cons, List.map_cons]
    show v x :: List.filterMap _ xs = _
    rw [ih]
theorem levels_ok {A : List Pc} {Q : OD → Prop} (ha : Okl A) (hl : A.length ≤ 100000) (hq : ∀ L : List Int, L.Pairwise (· < ·) → (∀ k, k ∈ L ↔ ∃ y ∈ lev [] A, y.1 = k) → Q (.lst (L.map fun k => oP (atV (levS A) k)))) : S_Heap_levels [hpD A] Q := by
  refine ⟨rfl, ?_⟩
  show t_Heap_levels _ [some (.sh (hpD A)), none, none, none]
  unfold hpD
  simp only [t_Heap_levels, ↓zHd0, zHp0, ↓zGd0, ↓zGd1, ↓zGd2, ↓zGd3, ↓zGd4, zGp0, startD, ↓List.map_cons, ↓List.map_nil, ↓List.length_cons, ↓List.length_nil, Nat.reduceAdd, Nat.reduceSub, Nat.sub_self, List.replicate, ↓List.cons_append, ↓List.nil_append, List.append_nil, ↓List.getElem?_cons_zero, ↓List.getElem?_cons_succ, ↓List.set_cons_zero, ↓List.set_cons_succ, wipeD, Bool.not_true, Bool.not_false, decide_true, decide_false, beq_self_eq_true, true_and, and_true, Nat.reduceLeDiff, toDs, toDk, toDs_sh, ↓zS_ii, ↓zS_bi, ↓zS_bb, ↓zS_tt, ↓zS_ll, ↓zS_lt, ↓zS_lk, ↓zS_cut3, ↓zS_r3, ↓zS_r3D, ↓zS_nonI, ↓zS_nonN, ↓zS_ownO]
  intro v
  refine with_ok ha hl ?_
  have e0 : (levS A).length = A.length := by rw [List.length_mergeSort, lev_len, List.length_nil, Nat.zero_add]
  simp only [↓zHd0, zHp0, ↓zGd0, ↓zGd1, ↓zGd2, ↓zGd3, ↓zGd4, zGp0, startD, ↓List.map_cons, ↓List.map_nil, ↓List.length_cons, ↓List.length_nil, Nat.reduceAdd, Nat.reduceSub, Nat.sub_self, List.replicate, ↓List.cons_append, ↓List.nil_append, List.append_nil, ↓List.getElem?_cons_zero, ↓List.getElem?_cons_succ, ↓List.set_cons_zero, ↓List.set_cons_succ, wipeD, Bool.not_true, Bool.not_false, decide_true, decide_false, beq_self_eq_true, true_and, and_true, Nat.reduceLeDiff, toDs, toDk, toDs_sh, ↓zS_ii, ↓zS_bi, ↓zS_bb, ↓zS_tt, ↓zS_ll, ↓zS_lt, ↓zS_lk, ↓zS_cut3, ↓zS_r3, ↓zS_r3D, ↓zS_nonI, ↓zS_nonN, ↓zS_ownO]
  refine dl_2 (levS A) [] [] none none ⟨List.nodup_nil, fun k => by simp⟩ (by rw [e0, List.length_nil]; omega) fun l o2 o3 hL => ?_
  rw [List.nil_append] at hL ⊢
  have hll := hL.len
  simp only [↓zHd0, zHp0, ↓zGd0, ↓zGd1, ↓zGd2, ↓zGd3, ↓zGd4, zGp0, startD, ↓List.map_cons, ↓List.map_nil, ↓List.length_cons, ↓List.length_nil, Nat.reduceAdd, Nat.reduceSub, Nat.sub_self, List.replicate, ↓List.cons_append, ↓List.nil_append, List.append_nil, ↓List.getElem?_cons_zero, ↓List.getElem?_cons_succ, ↓List.set_cons_zero, ↓List.set_cons_succ, wipeD, Bool.not_true, Bool.not_false, decide_true, decide_false, beq_self_eq_true, true_and, and_true, Nat.reduceLeDiff, toDs, toDk, toDs_sh, ↓zS_ii, ↓zS_bi, ↓zS_bb, ↓zS_tt, ↓zS_ll, ↓zS_lt, ↓zS_lk, ↓zS_cut3, ↓zS_r3, ↓zS_r3D, ↓zS_nonI, ↓zS_nonN, ↓zS_ownO]
  have ed : (toDk (lvK l (levS A))).map (fun x => x.1) = l.map D.int := by
    rw [toDk_map (k := D.int) (v := fun k => odP (atV (levS A) k)) l, List.map_map]
    rfl
  rw [ed, sort_i]
  have bd : ∀ k ∈ l, 0 ≤ k ∧ k ≤ 100000 := fun k hk => by
    obtain ⟨y, hy, rfl⟩ := (hL.mem k).mp hk
    have := lev_bd A [] (fun _ h => nomatch h) y (List.mem_mergeSort.mp hy)
    rw [lev_len, List.length_nil] at this
    omega
  have nd : (l.mergeSort leI).Nodup := (List.mergeSort_perm l _).nodup_iff.mpr hL.nd
  refine ⟨srt_ints bd, ?_, ?_, ?_⟩
  · rw [List.all_map, List.all_eq_true]
    intro x _
    rfl
  · rw [List.length_map, List.length_mergeSort, sizeLine_eq]; omega
  · refine vl_i (v := fun k => odP (atV (levS A) k)) _ [] _ (fun k hk => List.mem_mergeSort.mp hk) fun ns e hn => ?_
    have hp := picks_i e hn
    rw [List.nil_append]
    refine ⟨⟨?_, fun k hk => ?_⟩, ?_⟩
    · have : (ns.map fun n => l[n]?).Nodup := by
        rw [hp]
        exact List.pairwise_map.mpr (nd.imp fun h e => h (Option.some.inj e))
      exact (List.pairwise_map.mp this).imp fun h e => h (by rw [e])
    · have : l[k]? ∈ ns.map fun n => l[n]? := List.mem_map_of_mem hk
      rw [hp] at this
      obtain ⟨z, _, h⟩ := List.mem_map.mp this
      rw [List.length_map]
      exact (List.getElem?_eq_some_iff.mp h.symm).1
    · rw [pickO_i hp]
      refine hq _ ?_ fun k => ?_
      · have pw : (l.mergeSort leI).Pairwise fun a b => leI a b = true := List.pairwise_mergeSort (fun a b c h1 h2 => by
          unfold leI at *
          rw [decide_eq_true_eq] at *; omega) (fun a b => by
          unfold leI
          rcases Int.le_total a b with z | z
          · rw [decide_eq_true z]; rfl
          · rw [decide_eq_true z, Bool.or_true]) l
        exact (pw.and nd).imp fun {a b} h => by
          have := of_decide_eq_true h.1
          have := h.2
          omega
      · rw [List.mem_mergeSort, hL.mem k]
        constructor
        · rintro ⟨y, hy, h⟩; exact ⟨y, List.mem_mergeSort.mp hy, h⟩
        · rintro ⟨y, hy, h⟩; exact ⟨y, List.mem_mergeSort.mpr hy, h⟩
theorem zS_ms : decide (Str.ofString "moon" = Str.ofString "sun") = false := by decide +kernel
theorem zS_sm : decide (Str.ofString "sun" = Str.ofString "moon") = false := by decide +kernel
theorem zS_mm : decide (Str.ofString "moon" = Str.ofString "moon") = true := by decide +kernel
def sdS (b : Bool) : Str := if b then Str.ofString "moon" else Str.ofString "sun"
def sdI (b : Bool) : Int := if b then 1 else 0
def axP (b : Bool) (p : Pc) : Int := if b then p.2.1 else p.1
theorem side_ok (b : Bool) {Q : D → Prop} (hq : Q (.bl true)) : S_is_side [.str (sdS b)] Q := by
  refine ⟨rfl, ?_⟩
  cases b
  · show t_is_side _ [some (.sh (.str (Str.ofString "sun")))]
    simp only [t_is_side, ↓zHd0, zHp0, ↓zGd0, ↓zGd1, ↓zGd2, ↓zGd3, ↓zGd4, zGp0, startD, ↓List.map_cons, ↓List.map_nil, ↓List.length_cons, ↓List.length_nil, Nat.reduceAdd, Nat.reduceSub, Nat.sub_self, List.replicate, ↓List.cons_append, ↓List.nil_append, List.append_nil, ↓List.getElem?_cons_zero, ↓List.getElem?_cons_succ, ↓List.set_cons_zero, ↓List.set_cons_succ, wipeD, Bool.not_true, Bool.not_false, decide_true, decide_false, beq_self_eq_true, true_and, and_true, Nat.reduceLeDiff, toDs, toDk, toDs_sh, ↓zS_ii, ↓zS_bi, ↓zS_bb, ↓zS_tt, ↓zS_ll, ↓zS_lt, ↓zS_lk, ↓zS_cut3, ↓zS_r3, ↓zS_r3D, ↓zS_nonI, ↓zS_nonN, ↓zS_ownO, ↓zS_ms, ↓zS_sm, ↓zS_mm, c_SIDES, cTup]
    exact ⟨⟨rfl, rfl⟩, hq⟩
  · show t_is_side _ [some (.sh (.str (Str.ofString "moon")))]
    simp only [t_is_side, ↓zHd0, zHp0, ↓zGd0, ↓zGd1, ↓zGd2, ↓zGd3, ↓zGd4, zGp0, startD, ↓List.map_cons, ↓List.map_nil, ↓List.length_cons, ↓List.length_nil, Nat.reduceAdd, Nat.reduceSub, Nat.sub_self, List.replicate, ↓List.cons_append, ↓List.nil_append, List.append_nil, ↓List.getElem?_cons_zero, ↓List.getElem?_cons_succ, ↓List.set_cons_zero, ↓List.set_cons_succ, wipeD, Bool.not_true, Bool.not_false, decide_true, decide_false, beq_self_eq_true, true_and, and_true, Nat.reduceLeDiff, toDs, toDk, toDs_sh, ↓zS_ii, ↓zS_bi, ↓zS_bb, ↓zS_tt, ↓zS_ll, ↓zS_lt, ↓zS_lk, ↓zS_cut3, ↓zS_r3, ↓zS_r3D, ↓zS_nonI, ↓zS_nonN, ↓zS_ownO, ↓zS_ms, ↓zS_sm, ↓zS_mm, c_SIDES, cTup]
    exact ⟨⟨rfl, rfl⟩, hq⟩
theorem of_ok (b : Bool) {A : List Pc} {k : Int} {Q : OD → Prop} (hl : A.length ≤ 100000) (hk : 0 ≤ k) (hq : Q (oP (A.filter fun p => decide (axP b p = k)))) : S_Heap_pieces_of [hpD A, .tup [.str (sdS b), .int k]] Q := by
  refine ⟨rfl, ?_⟩
  show t_Heap_pieces_of _ [some (.sh (hpD A)), some (.sh (.tup [.str (sdS b), .int k])), none]
  unfold hpD lD
  simp only [t_Heap_pieces_of, ↓zHd0, zHp0, ↓zGd0, ↓zGd1, ↓zGd2, ↓zGd3, ↓zGd4, zGp0, startD, ↓List.map_cons, ↓List.map_nil, ↓List.length_cons, ↓List.length_nil, Nat.reduceAdd, Nat.reduceSub, Nat.sub_self, List.replicate, ↓List.cons_append, ↓List.nil_append, List.append_nil, ↓List.getElem?_cons_zero, ↓List.getElem?_cons_succ, ↓List.set_cons_zero, ↓List.set_cons_succ, wipeD, Bool.not_true, Bool.not_false, decide_true, decide_false, beq_self_eq_true, true_and, and_true, Nat.reduceLeDiff, toDs, toDk, toDs_sh, ↓zS_ii, ↓zS_bi, ↓zS_bb, ↓zS_tt, ↓zS_ll, ↓zS_lt, ↓zS_lk, ↓zS_cut3, ↓zS_r3, ↓zS_r3D, ↓zS_nonI, ↓zS_nonN, ↓zS_ownO, ↓zS_ms, ↓zS_sm, ↓zS_mm]
  refine side_ok b ?_
  simp only [↓zHd0, zHp0, ↓zGd0, ↓zGd1, ↓zGd2, ↓zGd3, ↓zGd4, zGp0, startD, ↓List.map_cons, ↓List.map_nil, ↓List.length_cons, ↓List.length_nil, Nat.reduceAdd, Nat.reduceSub, Nat.sub_self, List.replicate, ↓List.cons_append, ↓List.nil_append, List.append_nil, ↓List.getElem?_cons_zero, ↓List.getElem?_cons_succ, ↓List.set_cons_zero, ↓List.set_cons_succ, wipeD, Bool.not_true, Bool.not_false, decide_true, decide_false, beq_self_eq_true, true_and, and_true, Nat.reduceLeDiff, toDs, toDk, toDs_sh, ↓zS_ii, ↓zS_bi, ↓zS_bb, ↓zS_tt, ↓zS_ll, ↓zS_lt, ↓zS_lk, ↓zS_cut3, ↓zS_r3, ↓zS_r3D, ↓zS_nonI, ↓zS_nonN, ↓zS_ownO, ↓zS_ms, ↓zS_sm, ↓zS_mm]
  refine count_ok hk ?_
  simp only [↓zHd0, zHp0, ↓zGd0, ↓zGd1, ↓zGd2, ↓zGd3, ↓zGd4, zGp0, startD, ↓List.map_cons, ↓List.map_nil, ↓List.length_cons, ↓List.length_nil, Nat.reduceAdd, Nat.reduceSub, Nat.sub_self, List.replicate, ↓List.cons_append, ↓List.nil_append, List.append_nil, ↓List.getElem?_cons_zero, ↓List.getElem?_cons_succ, ↓List.set_cons_zero, ↓List.set_cons_succ, wipeD, Bool.not_true, Bool.not_false, decide_true, decide_false, beq_self_eq_true, true_and, and_true, Nat.reduceLeDiff, toDs, toDk, toDs_sh, ↓zS_ii, ↓zS_bi, ↓zS_bb, ↓zS_tt, ↓zS_ll, ↓zS_lt, ↓zS_lk, ↓zS_cut3, ↓zS_r3, ↓zS_r3D, ↓zS_nonI, ↓zS_nonN, ↓zS_ownO, ↓zS_ms, ↓zS_sm, ↓zS_mm]
  refine ⟨pl_sz hl, ?_⟩
  have key : ∀ (xs : List Pc), lcD (gN 2) (tBl (dOp oEq (dOp oIx (dVar 2) (dCall cInt (dCons (dOp oEq (dOp oIx (dVar 1) (dC (.int 0))) (dC (.str (Str.ofString "moon")))) dNil))) (dOp oIx (dVar 1) (dC (.int 1))))) (dVar 2) [some (.sh (.obj 5 [.lst (A.map pcD)])), some (.sh (.tup [.str (sdS b), .int k])), none] (fun ds => Q (.lst (ds.map .sh))) (A.map pcD) [] := fun _ => by
    refine lc_fof (α := Pc) pcD pcD (fun p => decide (axP b p = k)) A [] (fun p hp R hR => ?_) (fun p hp _ R hR => ?_) (by rw [List.nil_append]; exact hq)
    · cases b
      · show tBl _ [some (.sh (.obj 5 [.lst (A.map pcD)])), some (.sh (.tup [.str (Str.ofString "sun"), .int k])), some (.sh (pcD p))] R
        unfold pcD
        simp only [↓zHd0, zHp0, ↓zGd0, ↓zGd1, ↓zGd2, ↓zGd3, ↓zGd4, zGp0, startD, ↓List.map_cons, ↓List.map_nil, ↓List.length_cons, ↓List.length_nil, Nat.reduceAdd, Nat.reduceSub, Nat.sub_self, List.replicate, ↓List.cons_append, ↓List.nil_append, List.append_nil, ↓List.getElem?_cons_zero, ↓List.getElem?_cons_succ, ↓List.set_cons_zero, ↓List.set_cons_succ, wipeD, Bool.not_true, Bool.not_false, decide_true, decide_false, beq_self_eq_true, true_and, and_true, Nat.reduceLeDiff, toDs, toDk, toDs_sh, ↓zS_ii, ↓zS_bi, ↓zS_bb, ↓zS_tt, ↓zS_ll, ↓zS_lt, ↓zS_lk, ↓zS_cut3, ↓zS_r3, ↓zS_r3D, ↓zS_nonI, ↓zS_nonN, ↓zS_ownO, ↓zS_ms, ↓zS_sm, ↓zS_mm, zS_sm, zS_mm]
        exact hR
      · show tBl _ [some (.sh (.obj 5 [.lst (A.map pcD)])), some (.sh (.tup [.str (Str.ofString "moon"), .int k])), some (.sh (pcD p))] R
        unfold pcD
        simp only [↓zHd0, zHp0, ↓zGd0, ↓zGd1, ↓zGd2, ↓zGd3, ↓zGd4, zGp0, startD, ↓List.map_cons, ↓List.map_nil, ↓List.length_cons, ↓List.length_nil, Nat.reduceAdd, Nat.reduceSub, Nat.sub_self, List.replicate, ↓List.cons_append, ↓List.nil_append, List.append_nil, ↓List.getElem?_cons_zero, ↓List.getElem?_cons_succ, ↓List.set_cons_zero, ↓List.set_cons_succ, wipeD, Bool.not_true, Bool.not_false, decide_true, decide_false, beq_self_eq_true, true_and, and_true, Nat.reduceLeDiff, toDs, toDk, toDs_sh, ↓zS_ii, ↓zS_bi, ↓zS_bb, ↓zS_tt, ↓zS_ll, ↓zS_lt, ↓zS_lk, ↓zS_cut3, ↓zS_r3, ↓zS_r3D, ↓zS_nonI, ↓zS_nonN, ↓zS_ownO, ↓zS_ms, ↓zS_sm, ↓zS_mm, zS_sm, zS_mm]
        exact hR
    · simp only [↓zHd0, zHp0, ↓zGd0, ↓zGd1, ↓zGd2, ↓zGd3, ↓zGd4, zGp0, startD, ↓List.map_cons, ↓List.map_nil, ↓List.length_cons, ↓List.length_nil, Nat.reduceAdd, Nat.reduceSub, Nat.sub_self, List.replicate, ↓List.cons_append, ↓List.nil_append, List.append_nil, ↓List.getElem?_cons_zero, ↓List.getElem?_cons_succ, ↓List.set_cons_zero, ↓List.set_cons_succ, wipeD, Bool.not_true, Bool.not_false, decide_true, decide_false, beq_self_eq_true, true_and, and_true, Nat.reduceLeDiff, toDs, toDk, toDs_sh, ↓zS_ii, ↓zS_bi, ↓zS_bb, ↓zS_tt, ↓zS_ll, ↓zS_lt, ↓zS_lk, ↓zS_cut3, ↓zS_r3, ↓zS_r3D, ↓zS_nonI, ↓zS_nonN, ↓zS_ownO, ↓zS_ms, ↓zS_sm, ↓zS_mm]
      exact hR
  exact key A
theorem lD_filter_pl {A : List Pc} (h : Okl A) (p : Pc → Bool) : Okl (A.filter p) := fun x hx => h x (List.mem_filter.mp hx).1
abbrev Rr (A : List Pc) (b : Bool) (k : Int) (o5 o6 o7 : Option SD) : DS := [some (.sh (hpD A)), some (.sh (lD A)), some (.sh (.str (sdS b))), some (.sh (.int (sdI b))), some (.sh (.int k)), o5, o6, o7]
theorem rr_1 {A : List Pc} {b : Bool} {k : Int} {W : DEnds} {o5 o6 o7 : Option SD} (ha : Okl A) (hl : A.length ≤ 1000) (hk : 0 ≤ k) (hN : ∀ o6 o7, W.nx (Rr A b k o5 o6 o7)) : b__law_ribbons_right_1 W (Rr A b k o5 o6 o7) := by
  unfold Rr
  simp only [b__law_ribbons_right_1, ↓zHd0, zHp0, ↓zGd0, ↓zGd1, ↓zGd2, ↓zGd3, ↓zGd4, zGp0, startD, ↓List.map_cons, ↓List.map_nil, ↓List.length_cons, ↓List.length_nil, Nat.reduceAdd, Nat.reduceSub, Nat.sub_self, List.replicate, ↓List.cons_append, ↓List.nil_append, List.append_nil, ↓List.getElem?_cons_zero, ↓List.getElem?_cons_succ, ↓List.set_cons_zero, ↓List.set_cons_succ, wipeD, Bool.not_true, Bool.not_false, decide_true, decide_false, beq_self_eq_true, true_and, and_true, Nat.reduceLeDiff, toDs, toDk, toDs_sh, ↓zS_ii, ↓zS_bi, ↓zS_bb, ↓zS_tt, ↓zS_ll, ↓zS_lt, ↓zS_lk, ↓zS_cut3, ↓zS_r3, ↓zS_r3D, ↓zS_nonI, ↓zS_nonN, ↓zS_ownO, ↓zS_ms, ↓zS_sm, ↓zS_mm]
  refine ⟨rfl, of_ok (A := A) b (by omega) hk ?_⟩
  intro v
  simp only [_law_ribbons_right_at_5, ↓zHd0, zHp0, ↓zGd0, ↓zGd1, ↓zGd2, ↓zGd3, ↓zGd4, zGp0, startD, ↓List.map_cons, ↓List.map_nil, ↓List.length_cons, ↓List.length_nil, Nat.reduceAdd, Nat.reduceSub, Nat.sub_self, List.replicate, ↓List.cons_append, ↓List.nil_append, List.append_nil, ↓List.getElem?_cons_zero, ↓List.getElem?_cons_succ, ↓List.set_cons_zero, ↓List.set_cons_succ, wipeD, Bool.not_true, Bool.not_false, decide_true, decide_false, beq_self_eq_true, true_and, and_true, Nat.reduceLeDiff, toDs, toDk, toDs_sh, ↓zS_ii, ↓zS_bi, ↓zS_bb, ↓zS_tt, ↓zS_ll, ↓zS_lt, ↓zS_lk, ↓zS_cut3, ↓zS_r3, ↓zS_r3D, ↓zS_nonI, ↓zS_nonN, ↓zS_ownO, ↓zS_ms, ↓zS_sm, ↓zS_mm]
  have hd := lD_filter_pl ha (fun p => decide (axP b p = k))
  have hz : (A.filter fun p => decide (axP b p = k)).length ≤ 1000 := Nat.le_trans (List.length_filter_le _ _) hl
  refine ⟨pl_sz (u := A) (by omega), ?_⟩
  refine lc_fof (α := Pc) pcD pcD (fun p => decide (axP b p = k)) A [] (fun p hp R hR => ?_) (fun p hp _ R hR => ?_) ?_
  · cases b
    · unfold pcD
      show tBl _ [some (.sh (hpD A)), some (.sh (lD A)), some (.sh (.str (sdS false))), some (.sh (.int 0)), some (.sh (.int k)), o5, _, some (.sh (.tup [.int p.1, .int p.2.1, .bl p.2.2.1, .bl p.2.2.2]))] R
      simp only [↓zHd0, zHp0, ↓zGd0, ↓zGd1, ↓zGd2, ↓zGd3, ↓zGd4, zGp0, startD, ↓List.map_cons, ↓List.map_nil, ↓List.length_cons, ↓List.length_nil, Nat.reduceAdd, Nat.reduceSub, Nat.sub_self, List.replicate, ↓List.cons_append, ↓List.nil_append, List.append_nil, ↓List.getElem?_cons_zero, ↓List.getElem?_cons_succ, ↓List.set_cons_zero, ↓List.set_cons_succ, wipeD, Bool.not_true, Bool.not_false, decide_true, decide_false, beq_self_eq_true, true_and, and_true, Nat.reduceLeDiff, toDs, toDk, toDs_sh, ↓zS_ii, ↓zS_bi, ↓zS_bb, ↓zS_tt, ↓zS_ll, ↓zS_lt, ↓zS_lk, ↓zS_cut3, ↓zS_r3, ↓zS_r3D, ↓zS_nonI, ↓zS_nonN, ↓zS_ownO, ↓zS_ms, ↓zS_sm, ↓zS_mm]
      exact hR
    · unfold pcD
      show tBl _ [some (.sh (hpD A)), some (.sh (lD A)), some (.sh (.str (sdS true))), some (.sh (.int 1)), some (.sh (.int k)), o5, _, some (.sh (.tup [.int p.1, .int p.2.1, .bl p.2.2.1, .bl p.2.2.2]))] R
      simp only [↓zHd0, zHp0, ↓zGd0, ↓zGd1, ↓zGd2, ↓zGd3, ↓zGd4, zGp0, startD, ↓List.map_cons, ↓List.map_nil, ↓List.length_cons, ↓List.length_nil, Nat.reduceAdd, Nat.reduceSub, Nat.sub_self, List.replicate, ↓List.cons_append, ↓List.nil_append, List.append_nil, ↓List.getElem?_cons_zero, ↓List.getElem?_cons_succ, ↓List.set_cons_zero, ↓List.set_cons_succ, wipeD, Bool.not_true, Bool.not_false, decide_true, decide_false, beq_self_eq_true, true_and, and_true, Nat.reduceLeDiff, toDs, toDk, toDs_sh, ↓zS_ii, ↓zS_bi, ↓zS_bb, ↓zS_tt, ↓zS_ll, ↓zS_lt, ↓zS_lk, ↓zS_cut3, ↓zS_r3, ↓zS_r3D, ↓zS_nonI, ↓zS_nonN, ↓zS_ownO, ↓zS_ms, ↓zS_sm, ↓zS_mm]
      exact hR
  · simp only [↓zHd0, zHp0, ↓zGd0, ↓zGd1, ↓zGd2, ↓zGd3, ↓zGd4, zGp0, startD, ↓List.map_cons, ↓List.map_nil, ↓List.length_cons, ↓List.length_nil, Nat.reduceAdd, Nat.reduceSub, Nat.sub_self, List.replicate, ↓List.cons_append, ↓List.nil_append, List.append_nil, ↓List.getElem?_cons_zero, ↓List.getElem?_cons_succ, ↓List.set_cons_zero, ↓List.set_cons_succ, wipeD, Bool.not_true, Bool.not_false, decide_true, decide_false, beq_self_eq_true, true_and, and_true, Nat.reduceLeDiff, toDs, toDk, toDs_sh, ↓zS_ii, ↓zS_bi, ↓zS_bb, ↓zS_tt, ↓zS_ll, ↓zS_lt, ↓zS_lk, ↓zS_cut3, ↓zS_r3, ↓zS_r3D, ↓zS_nonI, ↓zS_nonN, ↓zS_ownO, ↓zS_ms, ↓zS_sm, ↓zS_mm]
    exact hR
  · rw [List.nil_append]
    refine alike_l (lD_pl hd) (lD_wt hz) ?_
    simp only [notB_eq, _law_ribbons_right_at_7, ↓zHd0, zHp0, ↓zGd0, ↓zGd1, ↓zGd2, ↓zGd3, ↓zGd4, zGp0, startD, ↓List.map_cons, ↓List.map_nil, ↓List.length_cons, ↓List.length_nil, Nat.reduceAdd, Nat.reduceSub, Nat.sub_self, List.replicate, ↓List.cons_append, ↓List.nil_append, List.append_nil, ↓List.getElem?_cons_zero, ↓List.getElem?_cons_succ, ↓List.set_cons_zero, ↓List.set_cons_succ, wipeD, Bool.not_true, Bool.not_false, decide_true, decide_false, beq_self_eq_true, true_and, and_true, Nat.reduceLeDiff, toDs, toDk, toDs_sh, ↓zS_ii, ↓zS_bi, ↓zS_bb, ↓zS_tt, ↓zS_ll, ↓zS_lt, ↓zS_lk, ↓zS_cut3, ↓zS_r3, ↓zS_r3D, ↓zS_nonI, ↓zS_nonN, ↓zS_ownO, ↓zS_ms, ↓zS_sm, ↓zS_mm]
    refine ⟨by rw [List.length_map, List.length_map, sizeLine_eq]; omega, ?_⟩
    exact hN _ _
theorem rr_2 {A : List Pc} {b : Bool} {k : Int} {W : DEnds} (ha : Okl A) (hl : A.length ≤ 1000) (hk : 0 ≤ k) : ∀ (n : Nat) (j : Int) (o5 o6 o7 : Option SD), (∀ o5 o6 o7, W.nx (Rr A b k o5 o6 o7)) → forD (gN 5) b__law_ribbons_right_1 W (ups j n) (Rr A b k o5 o6 o7)
  | 0, j, o5, o6, o7, hN => hN o5 o6 o7
  | n + 1, j, o5, o6, o7, hN => by
    rw [ups_succ, forD_c]
    show b__law_ribbons_right_1 _ (Rr A b k (some (.sh (.int j))) o6 o7)
    exact rr_1 ha hl hk fun o6 o7 => rr_2 ha hl hk n (j + 1) _ _ _ hN
theorem rr_3 {A : List Pc} {b : Bool} {W : DEnds} (ha : Okl A) (hl : A.length ≤ 1000) : ∀ (ks : List Int) (o4 o5 o6 o7 : Option SD), (∀ k ∈ ks, 0 ≤ k) → (∀ o4 o5 o6 o7, W.nx [some (.sh (hpD A)), some (.sh (lD A)), some (.sh (.str (sdS b))), some (.sh (.int (sdI b))), o4, o5, o6, o7]) → forD (gN 4) b__law_ribbons_right_2 W (ks.map D.int) [some (.sh (hpD A)), some (.sh (lD A)), some (.sh (.str (sdS b))), some (.sh (.int (sdI b))), o4, o5, o6, o7]
  | [], o4, o5, o6, o7, _, hN => hN o4 o5 o6 o7
  | k :: ks, o4, o5, o6, o7, h0, hN => by
    rw [List.map_cons, forD_c]
    show b__law_ribbons_right_2 _ (Rr A b k o5 o6 o7)
    have ih := fun o4 o5 o6 o7 => rr_3 (W := W) ha hl ks o4 o5 o6 o7 (fun x hx => h0 x (List.mem_cons_of_mem _ hx)) hN
    simp only [b__law_ribbons_right_2, ↓zHd0, zHp0, ↓zGd0, ↓zGd1, ↓zGd2, ↓zGd3, ↓zGd4, zGp0, startD, ↓List.map_cons, ↓List.map_nil, ↓List.length_cons, ↓List.length_nil, Nat.reduceAdd, Nat.reduceSub, Nat.sub_self, List.replicate, ↓List.cons_append, ↓List.nil_append, List.append_nil, ↓List.getElem?_cons_zero, ↓List.getElem?_cons_succ, ↓List.set_cons_zero, ↓List.set_cons_succ, wipeD, Bool.not_true, Bool.not_false, decide_true, decide_false, beq_self_eq_true, true_and, and_true, Nat.reduceLeDiff, toDs, toDk, toDs_sh, ↓zS_ii, ↓zS_bi, ↓zS_bb, ↓zS_tt, ↓zS_ll, ↓zS_lt, ↓zS_lk, ↓zS_cut3, ↓zS_r3, ↓zS_r3D, ↓zS_nonI, ↓zS_nonN, ↓zS_ownO, ↓zS_ms, ↓zS_sm, ↓zS_mm]
    exact ⟨by decide, rr_2 ha hl (h0 k List.mem_cons_self) 2 0 _ _ _ fun o5 o6 o7 => ih _ _ _ _⟩
theorem rr_4 {A : List Pc} {b : Bool} {W : DEnds} {o4 o5 o6 o7 : Option SD} (ha : Okl A) (hl : A.length < 64) (hN : ∀ o4 o5 o6 o7, W.nx [some (.sh (hpD A)), some (.sh (lD A)), some (.sh (.str (sdS b))), some (.sh (.int (sdI b))), o4, o5, o6, o7]) : b__law_ribbons_right_3 W [some (.sh (hpD A)), some (.sh (lD A)), some (.sh (.str (sdS b))), some (.sh (.int (sdI b))), o4, o5, o6, o7] := by
  simp only [b__law_ribbons_right_3, ↓zHd0, zHp0, ↓zGd0, ↓zGd1, ↓zGd2, ↓zGd3, ↓zGd4, zGp0, startD, ↓List.map_cons, ↓List.map_nil, ↓List.length_cons, ↓List.length_nil, Nat.reduceAdd, Nat.reduceSub, Nat.sub_self, List.replicate, ↓List.cons_append, ↓List.nil_append, List.append_nil, ↓List.getElem?_cons_zero, ↓List.getElem?_cons_succ, ↓List.set_cons_zero, ↓List.set_cons_succ, wipeD, Bool.not_true, Bool.not_false, decide_true, decide_false, beq_self_eq_true, true_and, and_true, Nat.reduceLeDiff, toDs, toDk, toDs_sh, ↓zS_ii, ↓zS_bi, ↓zS_bb, ↓zS_tt, ↓zS_ll, ↓zS_lt, ↓zS_lk, ↓zS_cut3, ↓zS_r3, ↓zS_r3D, ↓zS_nonI, ↓zS_nonN, ↓zS_ownO, ↓zS_ms, ↓zS_sm, ↓zS_mm]
  refine ⟨pl_sz (u := A) (by omega), ?_⟩
  refine lc_of (α := Pc) pcD (fun p => .int (axP b p)) A [] (fun p hp R hR => ?_) ?_
  · cases b
    · unfold pcD
      show dOp _ _ _ [some (.sh (hpD A)), some (.sh (lD A)), some (.sh (.str (sdS false))), some (.sh (.int 0)), _, _, _, some (.sh (.tup [.int p.1, .int p.2.1, .bl p.2.2.1, .bl p.2.2.2]))] R
      simp only [↓zHd0, zHp0, ↓zGd0, ↓zGd1, ↓zGd2, ↓zGd3, ↓zGd4, zGp0, startD, ↓List.map_cons, ↓List.map_nil, ↓List.length_cons, ↓List.length_nil, Nat.reduceAdd, Nat.reduceSub, Nat.sub_self, List.replicate, ↓List.cons_append, ↓List.nil_append, List.append_nil, ↓List.getElem?_cons_zero, ↓List.getElem?_cons_succ, ↓List.set_cons_zero, ↓List.set_cons_succ, wipeD, Bool.not_true, Bool.not_false, decide_true, decide_false, beq_self_eq_true, true_and, and_true, Nat.reduceLeDiff, toDs, toDk, toDs_sh, ↓zS_ii, ↓zS_bi, ↓zS_bb, ↓zS_tt, ↓zS_ll, ↓zS_lt, ↓zS_lk, ↓zS_cut3, ↓zS_r3, ↓zS_r3D, ↓zS_nonI, ↓zS_nonN, ↓zS_ownO, ↓zS_ms, ↓zS_sm, ↓zS_mm]
      exact hR
    · unfold pcD
      show dOp _ _ _ [some (.sh (hpD A)), some (.sh (lD A)), some (.sh (.str (sdS true))), some (.sh (.int 1)), _, _, _, some (.sh (.tup [.int p.1, .int p.2.1, .bl p.2.2.1, .bl p.2.2.2]))] R
      simp only [↓zHd0, zHp0, ↓zGd0, ↓zGd1, ↓zGd2, ↓zGd3, ↓zGd4, zGp0, startD, ↓List.map_cons, ↓List.map_nil, ↓List.length_cons, ↓List.length_nil, Nat.reduceAdd, Nat.reduceSub, Nat.sub_self, List.replicate, ↓List.cons_append, ↓List.nil_append, List.append_nil, ↓List.getElem?_cons_zero, ↓List.getElem?_cons_succ, ↓List.set_cons_zero, ↓List.set_cons_succ, wipeD, Bool.not_true, Bool.not_false, decide_true, decide_false, beq_self_eq_true, true_and, and_true, Nat.reduceLeDiff, toDs, toDk, toDs_sh, ↓zS_ii, ↓zS_bi, ↓zS_bb, ↓zS_tt, ↓zS_ll, ↓zS_lt, ↓zS_lk, ↓zS_cut3, ↓zS_r3, ↓zS_r3D, ↓zS_nonI, ↓zS_nonN, ↓zS_ownO, ↓zS_ms, ↓zS_sm, ↓zS_mm]
      exact hR
  · have es : ∀ QL : List D → Prop, setL [.lst (A.map fun p => D.int (axP b p))] QL = (((A.map (axP b)).length < 64) ∧ ∀ ns : List Int, ns.Pairwise (· < ·) → (∀ k : Int, k ∈ ns ↔ k ∈ A.map (axP b)) → QL (ns.map .int)) := fun QL => by
      rw [← z_setL, List.map_map]
      rfl
    rw [List.nil_append, es]
    refine ⟨by rw [List.length_map]; exact hl, fun ns n1 n2 => ?_⟩
    have nl : ns.length ≤ 1000 := by
      have := List.Nodup.length_le_of_subset (n1.imp fun {a b} h => (by omega : a ≠ b)) (fun k hk => (n2 k).mp hk : ns ⊆ A.map (axP b))
      rw [List.length_map] at this
      omega
    have e : ns.map D.int ++ [D.int 7] = (ns ++ [7]).map D.int := by rw [List.map_append]; rfl
    have h0 : ∀ k ∈ ns ++ [7], 0 ≤ k := fun k hk => by
      rcases List.mem_append.mp hk with h | h
      · obtain ⟨p, hp, rfl⟩ := List.mem_map.mp ((n2 k).mp h)
        have := ha p hp
        cases b
        · exact this.i0
        · exact this.j0
      · rw [List.mem_singleton.mp h]; decide
    have fin := rr_3 (b := b) (W := W) ha (by omega) (ns ++ [7]) o4 o5 o6 o7 h0 hN
    rw [← e] at fin
    exact ⟨by rw [List.length_map, sizeLine_eq]; omega, fin⟩
theorem ribbons_ok {A : List Pc} {Q : D → Prop} (ha : Okl A) (hl : A.length < 64) (hq : Q (.bl true)) : S__law_ribbons_right [hpD A, lD A] Q := by
  refine ⟨rfl, ?_⟩
  show t__law_ribbons_right _ [some (.sh (hpD A)), some (.sh (lD A)), none, none, none, none, none, none]
  simp only [t__law_ribbons_right, ↓zHd0, zHp0, ↓zGd0, ↓zGd1, ↓zGd2, ↓zGd3, ↓zGd4, zGp0, startD, ↓List.map_cons, ↓List.map_nil, ↓List.length_cons, ↓List.length_nil, Nat.reduceAdd, Nat.reduceSub, Nat.sub_self, List.replicate, ↓List.cons_append, ↓List.nil_append, List.append_nil, ↓List.getElem?_cons_zero, ↓List.getElem?_cons_succ, ↓List.set_cons_zero, ↓List.set_cons_succ, wipeD, Bool.not_true, Bool.not_false, decide_true, decide_false, beq_self_eq_true, true_and, and_true, Nat.reduceLeDiff, toDs, toDk, toDs_sh, ↓zS_ii, ↓zS_bi, ↓zS_bb, ↓zS_tt, ↓zS_ll, ↓zS_lt, ↓zS_lk, ↓zS_cut3, ↓zS_r3, ↓zS_r3D, ↓zS_nonI, ↓zS_nonN, ↓zS_ownO, ↓zS_ms, ↓zS_sm, ↓zS_mm]
  show b__law_ribbons_right_3 _ [some (.sh (hpD A)), some (.sh (lD A)), some (.sh (.str (sdS false))), some (.sh (.int (sdI false))), none, none, none, none]
  refine rr_4 ha hl fun o4 o5 o6 o7 => ?_
  try rw [forD_c]
  show b__law_ribbons_right_3 _ [some (.sh (hpD A)), some (.sh (lD A)), some (.sh (.str (sdS true))), some (.sh (.int (sdI true))), o4, o5, o6, o7]
  refine rr_4 ha hl fun o4 o5 o6 o7 => ?_
  try rw [forD_n]
  simp only [_law_ribbons_right_at_8, ↓zHd0, zHp0, ↓zGd0, ↓zGd1, ↓zGd2, ↓zGd3, ↓zGd4, zGp0, startD, ↓List.map_cons, ↓List.map_nil, ↓List.length_cons, ↓List.length_nil, Nat.reduceAdd, Nat.reduceSub, Nat.sub_self, List.replicate, ↓List.cons_append, ↓List.nil_append, List.append_nil, ↓List.getElem?_cons_zero, ↓List.getElem?_cons_succ, ↓List.set_cons_zero, ↓List.set_cons_succ, wipeD, Bool.not_true, Bool.not_false, decide_true, decide_false, beq_self_eq_true, true_and, and_true, Nat.reduceLeDiff, toDs, toDk, toDs_sh, ↓zS_ii, ↓zS_bi, ↓zS_bb, ↓zS_tt, ↓zS_ll, ↓zS_lt, ↓zS_lk, ↓zS_cut3, ↓zS_r3, ↓zS_r3D, ↓zS_nonI, ↓zS_nonN, ↓zS_ownO, ↓zS_ms, ↓zS_sm, ↓zS_mm]
  exact hq
theorem any_pc (A : List Pc) (p : Pc) : ((A.map pcD).any fun z => eqb z (pcD p)) = decide (p ∈ A) := by
  rw [Bool.eq_iff_iff, List.any_map, List.any_eq_true, decide_eq_true_eq]
  constructor
  · rintro ⟨x, hx, h⟩
    have h : eqb (pcD x) (pcD p) = true := h
    rw [pc_eqb, decide_eq_true_eq] at h
    exact h ▸ hx
  · intro hx
    exact ⟨p, hx, by show eqb (pcD p) (pcD p) = true; rw [pc_eqb, decide_eq_true rfl]⟩
theorem has_ok {A : List Pc} {p : Pc} {Q : D → Prop} (ha : Okl A) (hl : A.length ≤ 1000) (h : Okp p) (hq : Q (.bl (decide (p ∈ A)))) : S_Heap___contains__ [hpD A, pcD p] Q := by
  refine ⟨rfl, ?_⟩
  show t_Heap___contains__ _ [some (.sh (hpD A)), some (.sh (pcD p))]
  unfold hpD
  simp only [t_Heap___contains__, ↓zHd0, zHp0, ↓zGd0, ↓zGd1, ↓zGd2, ↓zGd3, ↓zGd4, zGp0, startD, ↓List.map_cons, ↓List.map_nil, ↓List.length_cons, ↓List.length_nil, Nat.reduceAdd, Nat.reduceSub, Nat.sub_self, List.replicate, ↓List.cons_append, ↓List.nil_append, List.append_nil, ↓List.getElem?_cons_zero, ↓List.getElem?_cons_succ, ↓List.set_cons_zero, ↓List.set_cons_succ, wipeD, Bool.not_true, Bool.not_false, decide_true, decide_false, beq_self_eq_true, true_and, and_true, Nat.reduceLeDiff, toDs, toDk, toDs_sh, ↓zS_ii, ↓zS_bi, ↓zS_bb, ↓zS_tt, ↓zS_ll, ↓zS_lt, ↓zS_lk, ↓zS_cut3, ↓zS_r3, ↓zS_r3D, ↓zS_nonI, ↓zS_nonN, ↓zS_ownO, ↓zS_ms, ↓zS_sm, ↓zS_mm]
  refine piece_ok h ?_
  simp only [↓zHd0, zHp0, ↓zGd0, ↓zGd1, ↓zGd2, ↓zGd3, ↓zGd4, zGp0, startD, ↓List.map_cons, ↓List.map_nil, ↓List.length_cons, ↓List.length_nil, Nat.reduceAdd, Nat.reduceSub, Nat.sub_self, List.replicate, ↓List.cons_append, ↓List.nil_append, List.append_nil, ↓List.getElem?_cons_zero, ↓List.getElem?_cons_succ, ↓List.set_cons_zero, ↓List.set_cons_succ, wipeD, Bool.not_true, Bool.not_false, decide_true, decide_false, beq_self_eq_true, true_and, and_true, Nat.reduceLeDiff, toDs, toDk, toDs_sh, ↓zS_ii, ↓zS_bi, ↓zS_bb, ↓zS_tt, ↓zS_ll, ↓zS_lt, ↓zS_lk, ↓zS_cut3, ↓zS_r3, ↓zS_r3D, ↓zS_nonI, ↓zS_nonN, ↓zS_ownO, ↓zS_ms, ↓zS_sm, ↓zS_mm]
  unfold lD
  simp only [↓zHd0, zHp0, ↓zGd0, ↓zGd1, ↓zGd2, ↓zGd3, ↓zGd4, zGp0, startD, ↓List.map_cons, ↓List.map_nil, ↓List.length_cons, ↓List.length_nil, Nat.reduceAdd, Nat.reduceSub, Nat.sub_self, List.replicate, ↓List.cons_append, ↓List.nil_append, List.append_nil, ↓List.getElem?_cons_zero, ↓List.getElem?_cons_succ, ↓List.set_cons_zero, ↓List.set_cons_succ, wipeD, Bool.not_true, Bool.not_false, decide_true, decide_false, beq_self_eq_true, true_and, and_true, Nat.reduceLeDiff, toDs, toDk, toDs_sh, ↓zS_ii, ↓zS_bi, ↓zS_bb, ↓zS_tt, ↓zS_ll, ↓zS_lt, ↓zS_lk, ↓zS_cut3, ↓zS_r3, ↓zS_r3D, ↓zS_nonI, ↓zS_nonN, ↓zS_ownO, ↓zS_ms, ↓zS_sm, ↓zS_mm]
  rw [any_pc]
  exact ⟨⟨pc_pl h, lD_pl ha⟩, hq⟩
theorem eqb_ones (u : List Pc) : eqb (.lst (u.map fun _ => D.int 1)) (.lst []) = decide (u = []) := by
  cases u with
  | nil => rfl
  | cons x u => rw [List.map_cons, eqb_nc]; exact (decide_eq_false (by simp)).symm
theorem ones_pl (u : List Pc) : DL.plain (.lst (u.map fun _ => D.int 1)) = true := pl_lst (k := 0) (fun d hd => by
  obtain ⟨p, hp, rfl⟩ := List.mem_map.mp hd
  exact ⟨by decide +kernel, Nat.le_refl _⟩) (by decide)
theorem nil_all {p : Pc → Bool} (u : List Pc) : decide ((u.filter p) = []) = u.all fun x => !p x := by
  rw [Bool.eq_iff_iff, decide_eq_true_eq, List.filter_eq_nil_iff, List.all_eq_true]
  constructor
  · intro h x hx
    have := h x hx
    cases e : p x
    · rfl
    · exact absurd e this
  · intro h x hx
    have := h x hx
    intro e
    rw [e] at this
    cases this
theorem right_2 {A : List Pc} {W : DEnds} (ha : Okl A) (hl : A.length ≤ 1000) (hN : _law_right_at_2 W [some (.sh (hpD A)), some (.sh (lD A)), some (.sh (lD (fr [] A))), none, none, none, none, none, none, none]) :
    t__law_right W [some (.sh (hpD A)), some (.sh (lD A)), none, none, none, none, none, none, none, none] := by
  unfold lD at hN ⊢
  simp only [t__law_right, ↓zHd0, zHp0, ↓zGd0, ↓zGd1, ↓zGd2, ↓zGd3, ↓zGd4, zGp0, startD, ↓List.map_cons, ↓List.map_nil, ↓List.length_cons, ↓List.length_nil, Nat.reduceAdd, Nat.reduceSub, Nat.sub_self, List.replicate, ↓List.cons_append, ↓List.nil_append, List.append_nil, ↓List.getElem?_cons_zero, ↓List.getElem?_cons_succ, ↓List.set_cons_zero, ↓List.set_cons_succ, wipeD, Bool.not_true, Bool.not_false, decide_true, decide_false, beq_self_eq_true, true_and, and_true, Nat.reduceLeDiff, toDs, toDk, toDs_sh, ↓zS_ii, ↓zS_bi, ↓zS_bb, ↓zS_tt, ↓zS_ll, ↓zS_lt, ↓zS_lk, ↓zS_cut3, ↓zS_r3, ↓zS_r3D, ↓zS_nonI, ↓zS_nonN, ↓zS_ownO, ↓zS_ms, ↓zS_sm, ↓zS_mm]
  rw [List.length_map, Int.toNat_natCast, ups_zip0]
  refine ⟨⟨by omega, by omega⟩, by rw [List.length_map, List.length_zipIdx, sizeLine_eq]; omega, ?_⟩
  refine lc_fofG (fun z : Pc × Nat => D.int z.2) (fun z => pcD z.1) (fun z => [some (.sh (hpD A)), some (.sh (.lst (A.map pcD))), none, none, none, none, none, some (.sh (.int z.2)), none, none]) (fun z => (A.take z.2).all fun x => !tch x z.1) A.zipIdx [] (fun z _ F hF => hF) (fun z hz R hR => ?_) (fun z hz _ R hR => ?_) ?_
  · obtain ⟨z1, z2⟩ := zip_at0 hz
    have me : atI (A.map pcD) (z.2 : Int) = some (pcD z.1) := atI_q (by omega) (by rw [Int.toNat_natCast, List.getElem?_map, z2]; rfl)
    simp only [↓zHd0, zHp0, ↓zGd0, ↓zGd1, ↓zGd2, ↓zGd3, ↓zGd4, zGp0, startD, ↓List.map_cons, ↓List.map_nil, ↓List.length_cons, ↓List.length_nil, Nat.reduceAdd, Nat.reduceSub, Nat.sub_self, List.replicate, ↓List.cons_append, ↓List.nil_append, List.append_nil, ↓List.getElem?_cons_zero, ↓List.getElem?_cons_succ, ↓List.set_cons_zero, ↓List.set_cons_succ, wipeD, Bool.not_true, Bool.not_false, decide_true, decide_false, beq_self_eq_true, true_and, and_true, Nat.reduceLeDiff, toDs, toDk, toDs_sh, ↓zS_ii, ↓zS_bi, ↓zS_bb, ↓zS_tt, ↓zS_ll, ↓zS_lt, ↓zS_lk, ↓zS_cut3, ↓zS_r3, ↓zS_r3D, ↓zS_nonI, ↓zS_nonN, ↓zS_ownO, ↓zS_ms, ↓zS_sm, ↓zS_mm]
    rw [cut_to (by rw [List.length_map]; omega), ← List.map_take]
    refine ⟨pl_sz (u := A.take z.2) (by rw [List.length_take]; omega), ?_⟩
    refine lc_fofG pcD (fun _ => D.int 1) (fun p => [some (.sh (hpD A)), some (.sh (.lst (A.map pcD))), none, none, none, none, none, some (.sh (.int z.2)), some (.sh (pcD p)), none]) (fun p => tch p z.1) (A.take z.2) [] (fun y _ F hF => hF) (fun y _ R hR => ?_) (fun y _ _ R hR => ?_) ?_
    · simp only [↓zHd0, zHp0, ↓zGd0, ↓zGd1, ↓zGd2, ↓zGd3, ↓zGd4, zGp0, startD, ↓List.map_cons, ↓List.map_nil, ↓List.length_cons, ↓List.length_nil, Nat.reduceAdd, Nat.reduceSub, Nat.sub_self, List.replicate, ↓List.cons_append, ↓List.nil_append, List.append_nil, ↓List.getElem?_cons_zero, ↓List.getElem?_cons_succ, ↓List.set_cons_zero, ↓List.set_cons_succ, wipeD, Bool.not_true, Bool.not_false, decide_true, decide_false, beq_self_eq_true, true_and, and_true, Nat.reduceLeDiff, toDs, toDk, toDs_sh, ↓zS_ii, ↓zS_bi, ↓zS_bb, ↓zS_tt, ↓zS_ll, ↓zS_lt, ↓zS_lk, ↓zS_cut3, ↓zS_r3, ↓zS_r3D, ↓zS_nonI, ↓zS_nonN, ↓zS_ownO, ↓zS_ms, ↓zS_sm, ↓zS_mm]
      rw [me]
      simp only [↓zHd0, zHp0, ↓zGd0, ↓zGd1, ↓zGd2, ↓zGd3, ↓zGd4, zGp0, startD, ↓List.map_cons, ↓List.map_nil, ↓List.length_cons, ↓List.length_nil, Nat.reduceAdd, Nat.reduceSub, Nat.sub_self, List.replicate, ↓List.cons_append, ↓List.nil_append, List.append_nil, ↓List.getElem?_cons_zero, ↓List.getElem?_cons_succ, ↓List.set_cons_zero, ↓List.set_cons_succ, wipeD, Bool.not_true, Bool.not_false, decide_true, decide_false, beq_self_eq_true, true_and, and_true, Nat.reduceLeDiff, toDs, toDk, toDs_sh, ↓zS_ii, ↓zS_bi, ↓zS_bb, ↓zS_tt, ↓zS_ll, ↓zS_lt, ↓zS_lk, ↓zS_cut3, ↓zS_r3, ↓zS_r3D, ↓zS_nonI, ↓zS_nonN, ↓zS_ownO, ↓zS_ms, ↓zS_sm, ↓zS_mm]
      exact ltouch_ok hR
    · simp only [↓zHd0, zHp0, ↓zGd0, ↓zGd1, ↓zGd2, ↓zGd3, ↓zGd4, zGp0, startD, ↓List.map_cons, ↓List.map_nil, ↓List.length_cons, ↓List.length_nil, Nat.reduceAdd, Nat.reduceSub, Nat.sub_self, List.replicate, ↓List.cons_append, ↓List.nil_append, List.append_nil, ↓List.getElem?_cons_zero, ↓List.getElem?_cons_succ, ↓List.set_cons_zero, ↓List.set_cons_succ, wipeD, Bool.not_true, Bool.not_false, decide_true, decide_false, beq_self_eq_true, true_and, and_true, Nat.reduceLeDiff, toDs, toDk, toDs_sh, ↓zS_ii, ↓zS_bi, ↓zS_bb, ↓zS_tt, ↓zS_ll, ↓zS_lt, ↓zS_lk, ↓zS_cut3, ↓zS_r3, ↓zS_r3D, ↓zS_nonI, ↓zS_nonN, ↓zS_ownO, ↓zS_ms, ↓zS_sm, ↓zS_mm]
      exact hR
    · rw [List.nil_append, eqb_ones, nil_all]
      exact ⟨⟨ones_pl _, rfl⟩, hR⟩
  · obtain ⟨z1, z2⟩ := zip_at0 hz
    have me : atI (A.map pcD) (z.2 : Int) = some (pcD z.1) := atI_q (by omega) (by rw [Int.toNat_natCast, List.getElem?_map, z2]; rfl)
    simp only [↓zHd0, zHp0, ↓zGd0, ↓zGd1, ↓zGd2, ↓zGd3, ↓zGd4, zGp0, startD, ↓List.map_cons, ↓List.map_nil, ↓List.length_cons, ↓List.length_nil, Nat.reduceAdd, Nat.reduceSub, Nat.sub_self, List.replicate, ↓List.cons_append, ↓List.nil_append, List.append_nil, ↓List.getElem?_cons_zero, ↓List.getElem?_cons_succ, ↓List.set_cons_zero, ↓List.set_cons_succ, wipeD, Bool.not_true, Bool.not_false, decide_true, decide_false, beq_self_eq_true, true_and, and_true, Nat.reduceLeDiff, toDs, toDk, toDs_sh, ↓zS_ii, ↓zS_bi, ↓zS_bb, ↓zS_tt, ↓zS_ll, ↓zS_lt, ↓zS_lk, ↓zS_cut3, ↓zS_r3, ↓zS_r3D, ↓zS_nonI, ↓zS_nonN, ↓zS_ownO, ↓zS_ms, ↓zS_sm, ↓zS_mm]
    rw [me]
    exact hR
  · have e : (A.zipIdx.filter fun z => (A.take z.2).all fun x => !tch x z.1).map (fun z : Pc × Nat => pcD z.1) = (fr [] A).map pcD := by
      rw [← fr_zip0 A, List.map_map]; rfl
    rw [List.nil_append, e]
    exact hN
theorem right_3 {A : List Pc} {W : DEnds} {o2 : D} (ha : Okl A) (hl : A.length ≤ 1000) (hN : _law_right_at_3 W [some (.sh (hpD A)), some (.sh (lD A)), some (.sh o2), some (.sh (lD (ls A))), none, none, none, none, none, none]) :
    _law_right_at_2 W [some (.sh (hpD A)), some (.sh (lD A)), some (.sh o2), none, none, none, none, none, none, none] := by
  unfold lD at hN ⊢
  simp only [_law_right_at_2, ↓zHd0, zHp0, ↓zGd0, ↓zGd1, ↓zGd2, ↓zGd3, ↓zGd4, zGp0, startD, ↓List.map_cons, ↓List.map_nil, ↓List.length_cons, ↓List.length_nil, Nat.reduceAdd, Nat.reduceSub, Nat.sub_self, List.replicate, ↓List.cons_append, ↓List.nil_append, List.append_nil, ↓List.getElem?_cons_zero, ↓List.getElem?_cons_succ, ↓List.set_cons_zero, ↓List.set_cons_succ, wipeD, Bool.not_true, Bool.not_false, decide_true, decide_false, beq_self_eq_true, true_and, and_true, Nat.reduceLeDiff, toDs, toDk, toDs_sh, ↓zS_ii, ↓zS_bi, ↓zS_bb, ↓zS_tt, ↓zS_ll, ↓zS_lt, ↓zS_lk, ↓zS_cut3, ↓zS_r3, ↓zS_r3D, ↓zS_nonI, ↓zS_nonN, ↓zS_ownO, ↓zS_ms, ↓zS_sm, ↓zS_mm]
  rw [List.length_map, Int.toNat_natCast, ups_zip0]
  refine ⟨⟨by omega, by omega⟩, by rw [List.length_map, List.length_zipIdx, sizeLine_eq]; omega, ?_⟩
  refine lc_fofG (fun z : Pc × Nat => D.int z.2) (fun z => pcD z.1) (fun z => [some (.sh (hpD A)), some (.sh (.lst (A.map pcD))), some (.sh o2), none, none, none, none, some (.sh (.int z.2)), none, none]) (fun z => (A.drop (z.2 + 1)).all fun x => !tch x z.1) A.zipIdx [] (fun z _ F hF => hF) (fun z hz R hR => ?_) (fun z hz _ R hR => ?_) ?_
  · obtain ⟨z1, z2⟩ := zip_at0 hz
    have me : atI (A.map pcD) (z.2 : Int) = some (pcD z.1) := atI_q (by omega) (by rw [Int.toNat_natCast, List.getElem?_map, z2]; rfl)
    simp only [↓zHd0, zHp0, ↓zGd0, ↓zGd1, ↓zGd2, ↓zGd3, ↓zGd4, zGp0, startD, ↓List.map_cons, ↓List.map_nil, ↓List.length_cons, ↓List.length_nil, Nat.reduceAdd, Nat.reduceSub, Nat.sub_self, List.replicate, ↓List.cons_append, ↓List.nil_append, List.append_nil, ↓List.getElem?_cons_zero, ↓List.getElem?_cons_succ, ↓List.set_cons_zero, ↓List.set_cons_succ, wipeD, Bool.not_true, Bool.not_false, decide_true, decide_false, beq_self_eq_true, true_and, and_true, Nat.reduceLeDiff, toDs, toDk, toDs_sh, ↓zS_ii, ↓zS_bi, ↓zS_bb, ↓zS_tt, ↓zS_ll, ↓zS_lt, ↓zS_lk, ↓zS_cut3, ↓zS_r3, ↓zS_r3D, ↓zS_nonI, ↓zS_nonN, ↓zS_ownO, ↓zS_ms, ↓zS_sm, ↓zS_mm]
    rw [show (z.2 : Int) + 1 = ((z.2 + 1 : Nat) : Int) by omega, cut_from (by rw [List.length_map]; omega), ← List.map_drop]
    refine ⟨pl_sz (u := A.drop (z.2 + 1)) (by rw [List.length_drop]; omega), ?_⟩
    refine lc_fofG pcD (fun _ => D.int 1) (fun p => [some (.sh (hpD A)), some (.sh (.lst (A.map pcD))), some (.sh o2), none, none, none, none, some (.sh (.int z.2)), some (.sh (pcD p)), none]) (fun p => tch p z.1) (A.drop (z.2 + 1)) [] (fun y _ F hF => hF) (fun y _ R hR => ?_) (fun y _ _ R hR => ?_) ?_
    · simp only [↓zHd0, zHp0, ↓zGd0, ↓zGd1, ↓zGd2, ↓zGd3, ↓zGd4, zGp0, startD, ↓List.map_cons, ↓List.map_nil, ↓List.length_cons, ↓List.length_nil, Nat.reduceAdd, Nat.reduceSub, Nat.sub_self, List.replicate, ↓List.cons_append, ↓List.nil_append, List.append_nil, ↓List.getElem?_cons_zero, ↓List.getElem?_cons_succ, ↓List.set_cons_zero, ↓List.set_cons_succ, wipeD, Bool.not_true, Bool.not_false, decide_true, decide_false, beq_self_eq_true, true_and, and_true, Nat.reduceLeDiff, toDs, toDk, toDs_sh, ↓zS_ii, ↓zS_bi, ↓zS_bb, ↓zS_tt, ↓zS_ll, ↓zS_lt, ↓zS_lk, ↓zS_cut3, ↓zS_r3, ↓zS_r3D, ↓zS_nonI, ↓zS_nonN, ↓zS_ownO, ↓zS_ms, ↓zS_sm, ↓zS_mm]
      rw [me]
      simp only [↓zHd0, zHp0, ↓zGd0, ↓zGd1, ↓zGd2, ↓zGd3, ↓zGd4, zGp0, startD, ↓List.map_cons, ↓List.map_nil, ↓List.length_cons, ↓List.length_nil, Nat.reduceAdd, Nat.reduceSub, Nat.sub_self, List.replicate, ↓List.cons_append, ↓List.nil_append, List.append_nil, ↓List.getElem?_cons_zero, ↓List.getElem?_cons_succ, ↓List.set_cons_zero, ↓List.set_cons_succ, wipeD, Bool.not_true, Bool.not_false, decide_true, decide_false, beq_self_eq_true, true_and, and_true, Nat.reduceLeDiff, toDs, toDk, toDs_sh, ↓zS_ii, ↓zS_bi, ↓zS_bb, ↓zS_tt, ↓zS_ll, ↓zS_lt, ↓zS_lk, ↓zS_cut3, ↓zS_r3, ↓zS_r3D, ↓zS_nonI, ↓zS_nonN, ↓zS_ownO, ↓zS_ms, ↓zS_sm, ↓zS_mm]
      exact ltouch_ok hR
    · simp only [↓zHd0, zHp0, ↓zGd0, ↓zGd1, ↓zGd2, ↓zGd3, ↓zGd4, zGp0, startD, ↓List.map_cons, ↓List.map_nil, ↓List.length_cons, ↓List.length_nil, Nat.reduceAdd, Nat.reduceSub, Nat.sub_self, List.replicate, ↓List.cons_append, ↓List.nil_append, List.append_nil, ↓List.getElem?_cons_zero, ↓List.getElem?_cons_succ, ↓List.set_cons_zero, ↓List.set_cons_succ, wipeD, Bool.not_true, Bool.not_false, decide_true, decide_false, beq_self_eq_true, true_and, and_true, Nat.reduceLeDiff, toDs, toDk, toDs_sh, ↓zS_ii, ↓zS_bi, ↓zS_bb, ↓zS_tt, ↓zS_ll, ↓zS_lt, ↓zS_lk, ↓zS_cut3, ↓zS_r3, ↓zS_r3D, ↓zS_nonI, ↓zS_nonN, ↓zS_ownO, ↓zS_ms, ↓zS_sm, ↓zS_mm]
      exact hR
    · rw [List.nil_append, eqb_ones, nil_all]
      exact ⟨⟨ones_pl _, rfl⟩, hR⟩
  · obtain ⟨z1, z2⟩ := zip_at0 hz
    have me : atI (A.map pcD) (z.2 : Int) = some (pcD z.1) := atI_q (by omega) (by rw [Int.toNat_natCast, List.getElem?_map, z2]; rfl)
    simp only [↓zHd0, zHp0, ↓zGd0, ↓zGd1, ↓zGd2, ↓zGd3, ↓zGd4, zGp0, startD, ↓List.map_cons, ↓List.map_nil, ↓List.length_cons, ↓List.length_nil, Nat.reduceAdd, Nat.reduceSub, Nat.sub_self, List.replicate, ↓List.cons_append, ↓List.nil_append, List.append_nil, ↓List.getElem?_cons_zero, ↓List.getElem?_cons_succ, ↓List.set_cons_zero, ↓List.set_cons_succ, wipeD, Bool.not_true, Bool.not_false, decide_true, decide_false, beq_self_eq_true, true_and, and_true, Nat.reduceLeDiff, toDs, toDk, toDs_sh, ↓zS_ii, ↓zS_bi, ↓zS_bb, ↓zS_tt, ↓zS_ll, ↓zS_lt, ↓zS_lk, ↓zS_cut3, ↓zS_r3, ↓zS_r3D, ↓zS_nonI, ↓zS_nonN, ↓zS_ownO, ↓zS_ms, ↓zS_sm, ↓zS_mm]
    rw [me]
    exact hR
  · have e : (A.zipIdx.filter fun z => (A.drop (z.2 + 1)).all fun x => !tch x z.1).map (fun z : Pc × Nat => pcD z.1) = (ls A).map pcD := by
      rw [← ls_zip0 A, List.map_map]; rfl
    rw [List.nil_append, e]
    exact hN
theorem lv_bound {A : List Pc} {L : List Int} (hp : L.Pairwise (· < ·)) (hm : ∀ k, k ∈ L ↔ ∃ y ∈ lev [] A, y.1 = k) : L.length ≤ A.length := by
  have := List.Nodup.length_le_of_subset (hp.imp fun {a b} h => (by omega : a ≠ b)) (fun k hk => by
    obtain ⟨y, hy, e⟩ := (hm k).mp hk
    exact List.mem_map.mpr ⟨y, hy, e⟩ : L ⊆ (lev [] A).map (·.1))
  rw [List.length_map, lev_len, List.length_nil] at this
  omega
theorem lst_fd {l : List D} {k : Nat} (h : ∀ d ∈ l, d.fine = true ∧ d.dep ≤ k) : (D.lst l).fine = true ∧ (D.lst l).dep ≤ k + 1 := by
  have key : fineL l = true ∧ depL l ≤ k := by
    induction l with
    | nil => exact ⟨rfl, Nat.zero_le _⟩
    | cons d l ih =>
      have h1 := h d List.mem_cons_self
      have h2 := ih fun x hx => h x (List.mem_cons_of_mem _ hx)
      refine ⟨?_, ?_⟩
      · simp [fineL, h1.1, h2.1]
      · simp only [depL]; omega
  refine ⟨by simp [D.fine, key.1], by simp only [D.dep]; omega⟩
theorem lD_fd {u : List Pc} (h : Okl u) : (lD u).fine = true ∧ (lD u).dep ≤ 2 := lst_fd fun d hd => by
  obtain ⟨p, hp, rfl⟩ := List.mem_map.mp hd
  exact pc_fine (h p hp)
theorem lD_wt2 (u : List Pc) : (lD u).wt ≤ 7000 * u.length + 4 := by
  have := wrd_wt u
  show wtL (u.map pcD) + 4 ≤ _
  omega
abbrev llD (us : List (List Pc)) : D := .lst (us.map lD)
theorem ll_fd {us : List (List Pc)} (h : ∀ u ∈ us, Okl u) : (llD us).fine = true ∧ (llD us).dep ≤ 3 := lst_fd fun d hd => by
  obtain ⟨u, hu, rfl⟩ := List.mem_map.mp hd
  exact lD_fd (h u hu)
theorem ll_wt {us : List (List Pc)} (h : ∀ u ∈ us, u.length ≤ 14) : wtL (us.map lD) ≤ 100000 * us.length := by
  induction us with
  | nil => exact Nat.le_refl _
  | cons u us ih =>
    have := ih fun v hv => h v (List.mem_cons_of_mem _ hv)
    have := lD_wt2 u
    have := h u List.mem_cons_self
    rw [List.map_cons, wtL, List.length_cons]
    omega
def fourD (A : List Pc) (us : List (List Pc)) (f l : List Pc) : D := .lst [lD A, llD us, lD f, lD l]
theorem four_ok {A f l : List Pc} {us : List (List Pc)} (ha : Okl A) (hf : Okl f) (hl : Okl l) (hu : ∀ u ∈ us, Okl u) (a : A.length ≤ 14) (b : f.length ≤ 14) (c : l.length ≤ 14) (d : us.length ≤ 14) (e : ∀ u ∈ us, u.length ≤ 14) : DL.plain (fourD A us f l) = true ∧ (fourD A us f l).wt ≤ 16000000 := by
  refine ⟨pl_lst (k := 3) (fun z hz => ?_) (by decide), ?_⟩
  · simp only [List.mem_cons, List.not_mem_nil, or_false] at hz
    rcases hz with rfl | rfl | rfl | rfl
    · have := lD_fd ha; exact ⟨this.1, by omega⟩
    · exact ll_fd hu
    · have := lD_fd hf; exact ⟨this.1, by omega⟩
    · have := lD_fd hl; exact ⟨this.1, by omega⟩
  · have := lD_wt2 A
    have := lD_wt2 f
    have := lD_wt2 l
    have h2 := ll_wt e
    have h3 : (llD us).wt = wtL (us.map lD) + 4 := rfl
    show wtL [lD A, llD us, lD f, lD l] + 4 ≤ _
    simp only [wtL]
    omega
def fourO (A : List Pc) (us : List (List Pc)) (f l : List Pc) : OD := .lst [oP A, .lst (us.map oP), oP f, oP l]
theorem toDs_P : ∀ us : List (List Pc), toDs (us.map oP) = us.map lD
  | [] => by rw [List.map_nil, toDs]; rfl
  | u :: us => by
    have h := oP_D u
    rw [List.map_cons, toDs, h, toDs_P us]; rfl
theorem four_D (A : List Pc) (us : List (List Pc)) (f l : List Pc) : (fourO A us f l).toD = fourD A us f l := by
  have h1 := oP_D A
  have h2 := oP_D f
  have h3 := oP_D l
  have h4 : (OD.lst (us.map oP)).toD = llD us := by rw [OD.toD, toDs_P]
  unfold fourO fourD
  rw [OD.toD, toDs, toDs, toDs, toDs, toDs, h1, h2, h3, h4]
abbrev Sq (A : List Pc) (o4 o5 o6 : Option SD) : DS := [some (.sh (hpD A)), some (.sh (lD A)), some (.sh (lD (fr [] A))), some (.sh (lD (ls A))), o4, o5, o6, none, none, none]
theorem right_1 {A : List Pc} {W : DEnds} {o4 o5 o6 : Option SD} (ha : Okl A) (hl : A.length ≤ 14) (hN : ∀ o5 o6, W.nx (Sq A o4 o5 o6)) : b__law_right_1 W (Sq A o4 o5 o6) := by
  simp only [b__law_right_1, ↓zHd0, zHp0, ↓zGd0, ↓zGd1, ↓zGd2, ↓zGd3, ↓zGd4, zGp0, startD, ↓List.map_cons, ↓List.map_nil, ↓List.length_cons, ↓List.length_nil, Nat.reduceAdd, Nat.reduceSub, Nat.sub_self, List.replicate, ↓List.cons_append, ↓List.nil_append, List.append_nil, ↓List.getElem?_cons_zero, ↓List.getElem?_cons_succ, ↓List.set_cons_zero, ↓List.set_cons_succ, wipeD, Bool.not_true, Bool.not_false, decide_true, decide_false, beq_self_eq_true, true_and, and_true, Nat.reduceLeDiff, toDs, toDk, toDs_sh, ↓zS_ii, ↓zS_bi, ↓zS_bb, ↓zS_tt, ↓zS_ll, ↓zS_lt, ↓zS_lk, ↓zS_cut3, ↓zS_r3, ↓zS_r3D, ↓zS_nonI, ↓zS_nonN, ↓zS_ownO, ↓zS_ms, ↓zS_sm, ↓zS_mm]
  refine lstO_ok (ds := A.map pcD) rfl (by rw [List.length_map]; omega) (hlen_ok ⟨⟨by omega, by omega⟩, by show (A.length : Int) ≤ 100000; omega⟩) ?_
  refine ⟨rfl, levels_ok ha (by omega) fun L hp hm => ⟨rfl, firsts_ok ha (by omega) ⟨rfl, lasts_ok ha (by omega) fun v => ?_⟩⟩⟩
  have hz : L.length ≤ 14 := Nat.le_trans (lv_bound hp hm) hl
  have eo : OD.lst [oP A, .lst (L.map fun k => oP (atV (levS A) k)), oP (firstsF A), oP (firstsF A.reverse)] = fourO A (L.map fun k => atV (levS A) k) (firstsF A) (firstsF A.reverse) := by
    unfold fourO
    rw [List.map_map]; rfl
  show _law_right_at_5 W [some (.sh (hpD A)), some (.sh (lD A)), some (.sh (lD (fr [] A))), some (.sh (lD (ls A))), o4, some (.ow v (OD.lst [oP A, .lst (L.map fun k => oP (atV (levS A) k)), oP (firstsF A), oP (firstsF A.reverse)])), o6, none, none, none]
  rw [eo]
  have hus : ∀ u ∈ L.map fun k => atV (levS A) k, Okl u ∧ u.length ≤ 14 := fun u hu => by
    obtain ⟨k, hk, rfl⟩ := List.mem_map.mp hu
    refine ⟨fun x hx => ?_, ?_⟩
    · obtain ⟨y, hy, rfl⟩ := List.mem_map.mp hx
      exact ha _ (lev_mem (List.mem_mergeSort.mp (List.mem_filter.mp hy).1))
    · have := atV_len (levS A) k
      rw [List.length_mergeSort, lev_len, List.length_nil] at this
      omega
  simp only [_law_right_at_5, ↓zHd0, zHp0, ↓zGd0, ↓zGd1, ↓zGd2, ↓zGd3, ↓zGd4, zGp0, startD, ↓List.map_cons, ↓List.map_nil, ↓List.length_cons, ↓List.length_nil, Nat.reduceAdd, Nat.reduceSub, Nat.sub_self, List.replicate, ↓List.cons_append, ↓List.nil_append, List.append_nil, ↓List.getElem?_cons_zero, ↓List.getElem?_cons_succ, ↓List.set_cons_zero, ↓List.set_cons_succ, wipeD, Bool.not_true, Bool.not_false, decide_true, decide_false, beq_self_eq_true, true_and, and_true, Nat.reduceLeDiff, toDs, toDk, toDs_sh, ↓zS_ii, ↓zS_bi, ↓zS_bb, ↓zS_tt, ↓zS_ll, ↓zS_lt, ↓zS_lk, ↓zS_cut3, ↓zS_r3, ↓zS_r3D, ↓zS_nonI, ↓zS_nonN, ↓zS_ownO, ↓zS_ms, ↓zS_sm, ↓zS_mm]
  rw [four_D]
  refine leveled_ok ha (by omega) fun L2 p2 m2 z2 => ?_
  have eL : L2 = L := asc_uniq p2 hp fun k => (m2 k).trans (hm k).symm
  subst eL
  have of : Okl (fr [] A) := fun x hx => ha x (fr_mem hx)
  have ol : Okl (ls A) := fun x hx => ha x (ls_mem hx)
  refine ⟨srt_pcs of, ⟨srt_pcs ol, ?_⟩⟩
  rw [sort_p, sort_p, ← firsts_fr, ← lasts_ls]
  have e4 : D.lst [lD A, .lst (L2.map fun k => lD (srtP (atV (lev [] A) k))), .lst ((firstsF A).map pcD), .lst ((firstsF A.reverse).map pcD)] = fourD A (L2.map fun k => atV (levS A) k) (firstsF A) (firstsF A.reverse) := by
    unfold fourD
    rw [show (L2.map fun k => lD (srtP (atV (lev [] A) k))) = (L2.map fun k => atV (levS A) k).map lD by
      rw [List.map_map]
      exact List.map_congr_left fun k _ => by rw [atV_srt]; rfl]
    rfl
  show S__law_alike [_, D.lst [lD A, .lst (L2.map fun k => lD (srtP (atV (lev [] A) k))), .lst ((firstsF A).map pcD), .lst ((firstsF A.reverse).map pcD)]] _
  rw [e4]
  have lf : (firstsF A).length ≤ 14 := by
    rw [firsts_fr]
    have := fr_len A []
    unfold srtP; rw [List.length_mergeSort]; omega
  have ll : (firstsF A.reverse).length ≤ 14 := by
    rw [lasts_ls]
    have := ls_len A
    unfold srtP; rw [List.length_mergeSort]; omega
  have of2 : Okl (firstsF A) := fun x hx => by
    rw [firsts_fr] at hx
    exact of x (List.mem_mergeSort.mp hx)
  have ol2 : Okl (firstsF A.reverse) := fun x hx => by
    rw [lasts_ls] at hx
    exact ol x (List.mem_mergeSort.mp hx)
  have hp := four_ok (us := L2.map fun k => atV (levS A) k) ha of2 ol2 (fun u hu => (hus u hu).1) hl lf ll (by rw [List.length_map]; exact hz) fun u hu => (hus u hu).2
  generalize hf : L2.map (fun k => atV (levS A) k) = us at hp hus ⊢
  refine alike_l hp.1 hp.2 ?_
  simp only [notB_eq, ↓zHd0, zHp0, ↓zGd0, ↓zGd1, ↓zGd2, ↓zGd3, ↓zGd4, zGp0, startD, ↓List.map_cons, ↓List.map_nil, ↓List.length_cons, ↓List.length_nil, Nat.reduceAdd, Nat.reduceSub, Nat.sub_self, List.replicate, ↓List.cons_append, ↓List.nil_append, List.append_nil, ↓List.getElem?_cons_zero, ↓List.getElem?_cons_succ, ↓List.set_cons_zero, ↓List.set_cons_succ, wipeD, Bool.not_true, Bool.not_false, decide_true, decide_false, beq_self_eq_true, true_and, and_true, Nat.reduceLeDiff, toDs, toDk, toDs_sh, ↓zS_ii, ↓zS_bi, ↓zS_bb, ↓zS_tt, ↓zS_ll, ↓zS_lt, ↓zS_lk, ↓zS_cut3, ↓zS_r3, ↓zS_r3D, ↓zS_nonI, ↓zS_nonN, ↓zS_ownO, ↓zS_ms, ↓zS_sm, ↓zS_mm]
  refine ⟨rfl, hlen_ok ⟨⟨by omega, by omega⟩, ?_⟩⟩
  show cLen [.lst (A.map pcD)] _
  simp only [↓zHd0, zHp0, ↓zGd0, ↓zGd1, ↓zGd2, ↓zGd3, ↓zGd4, zGp0, startD, ↓List.map_cons, ↓List.map_nil, ↓List.length_cons, ↓List.length_nil, Nat.reduceAdd, Nat.reduceSub, Nat.sub_self, List.replicate, ↓List.cons_append, ↓List.nil_append, List.append_nil, ↓List.getElem?_cons_zero, ↓List.getElem?_cons_succ, ↓List.set_cons_zero, ↓List.set_cons_succ, wipeD, Bool.not_true, Bool.not_false, decide_true, decide_false, beq_self_eq_true, true_and, and_true, Nat.reduceLeDiff, toDs, toDk, toDs_sh, ↓zS_ii, ↓zS_bi, ↓zS_bb, ↓zS_tt, ↓zS_ll, ↓zS_lt, ↓zS_lk, ↓zS_cut3, ↓zS_r3, ↓zS_r3D, ↓zS_nonI, ↓zS_nonN, ↓zS_ownO, ↓zS_ms, ↓zS_sm, ↓zS_mm]
  rw [List.length_map, show (decide ((A.length : Int) = (A.length : Int))) = true from decide_eq_true rfl]
  simp only [_law_right_at_7, ↓zHd0, zHp0, ↓zGd0, ↓zGd1, ↓zGd2, ↓zGd3, ↓zGd4, zGp0, startD, ↓List.map_cons, ↓List.map_nil, ↓List.length_cons, ↓List.length_nil, Nat.reduceAdd, Nat.reduceSub, Nat.sub_self, List.replicate, ↓List.cons_append, ↓List.nil_append, List.append_nil, ↓List.getElem?_cons_zero, ↓List.getElem?_cons_succ, ↓List.set_cons_zero, ↓List.set_cons_succ, wipeD, Bool.not_true, Bool.not_false, decide_true, decide_false, beq_self_eq_true, true_and, and_true, Nat.reduceLeDiff, toDs, toDk, toDs_sh, ↓zS_ii, ↓zS_bi, ↓zS_bb, ↓zS_tt, ↓zS_ll, ↓zS_lt, ↓zS_lk, ↓zS_cut3, ↓zS_r3, ↓zS_r3D, ↓zS_nonI, ↓zS_nonN, ↓zS_ownO, ↓zS_ms, ↓zS_sm, ↓zS_mm]
  show (0 ≤ 1 ∧ (1 : Int) < ((4 : Nat) : Int)) ∧ (4 + (us.map oP).length ≤ sizeLine ∧ allL [oP A, .lst (us.map oP), oP (firstsF A), oP (firstsF A.reverse)] = true ∧ allL (us.map oP) = true) ∧ (5 ≠ 6 ∧ 6 < 10) ∧ kickD 5 6 W (kids [] 4 ++ kids [1] (us.map oP).length) (Sq A o4 (some (.ow v (fourO A us (firstsF A) (firstsF A.reverse)))) o6)
  have lu : us.length ≤ 14 := by rw [← hf, List.length_map]; exact hz
  have lk : (kids [] 4 ++ kids [1] (us.map oP).length).length ≤ 100 := by
    unfold kids
    rw [List.length_append, List.length_map, List.length_map, List.length_range, List.length_range, List.length_map]
    omega
  refine ⟨⟨by decide, by decide⟩, ⟨by rw [List.length_map, sizeLine_eq]; omega, rfl, ?_⟩, ⟨by decide, by decide⟩, ?_⟩
  · unfold allL
    rw [List.all_map, List.all_eq_true]
    intro f _
    rfl
  refine kick_ok (v := v) (by decide) _ _ (fourO A us (firstsF A) (firstsF A.reverse)) (show 6 < 10 by decide) rfl (fun π hπ => ?_) (fun o => hN _ _) fun _ => hN _ _
  have sz : ∀ (u : List Pc), u.length ≤ 14 → ((u.map pcD).map OD.sh).length + (kids [] 4 ++ kids [1] (us.map oP).length).length ≤ sizeLine := fun u h => by
    rw [List.length_map, List.length_map, sizeLine_eq]; omega
  rcases List.mem_append.mp hπ with h | h
  · have h : π ∈ [[0], [1], [2], [3]] := h
    simp only [List.mem_cons, List.not_mem_nil, or_false] at h
    rcases h with rfl | rfl | rfl | rfl
    · exact ⟨_, rfl, sz A hl⟩
    · have l1 : (us.map oP).length ≤ 14 := by rw [List.length_map]; exact lu
      refine ⟨us.map oP, rfl, ?_⟩
      rw [sizeLine_eq]
      omega
    · exact ⟨_, rfl, sz _ lf⟩
    · exact ⟨_, rfl, sz _ ll⟩
  · unfold kids at h
    obtain ⟨k, hk, rfl⟩ := List.mem_map.mp h
    have hk := List.mem_range.mp hk
    rw [List.length_map] at hk
    have gk : us[k]? = some us[k] := List.getElem?_eq_getElem hk
    refine ⟨(us[k].map pcD).map OD.sh, ?_, sz _ (hus _ (List.getElem_mem hk)).2⟩
    show (match (us.map oP)[k]? with | some x => getO x [] | none => none) = _
    rw [List.getElem?_map, gk]
    rfl
theorem right_l {A : List Pc} {W : DEnds} (ha : Okl A) (hl : A.length ≤ 14) (hN : ∀ o4 o5 o6, W.nx (Sq A o4 o5 o6)) : ∀ (n : Nat) (j : Int) (o4 o5 o6 : Option SD), forD (gN 4) b__law_right_1 W (ups j n) (Sq A o4 o5 o6)
  | 0, j, o4, o5, o6 => hN o4 o5 o6
  | n + 1, j, o4, o5, o6 => by
    rw [ups_succ, forD_c]
    show b__law_right_1 _ (Sq A (some (.sh (.int j))) o5 o6)
    exact right_1 ha hl fun o5 o6 => right_l ha hl hN n (j + 1) _ o5 o6
theorem right_9 {A : List Pc} {W : DEnds} {o4 o5 o6 : Option SD} (ha : Okl A) (hl : A.length ≤ 14) (hN : W.rt (.bl true)) : _law_right_at_9 W (Sq A o4 o5 o6) := by
  simp only [_law_right_at_9, ↓zHd0, zHp0, ↓zGd0, ↓zGd1, ↓zGd2, ↓zGd3, ↓zGd4, zGp0, startD, ↓List.map_cons, ↓List.map_nil, ↓List.length_cons, ↓List.length_nil, Nat.reduceAdd, Nat.reduceSub, Nat.sub_self, List.replicate, ↓List.cons_append, ↓List.nil_append, List.append_nil, ↓List.getElem?_cons_zero, ↓List.getElem?_cons_succ, ↓List.set_cons_zero, ↓List.set_cons_succ, wipeD, Bool.not_true, Bool.not_false, decide_true, decide_false, beq_self_eq_true, true_and, and_true, Nat.reduceLeDiff, toDs, toDk, toDs_sh, ↓zS_ii, ↓zS_bi, ↓zS_bb, ↓zS_tt, ↓zS_ll, ↓zS_lt, ↓zS_lk, ↓zS_cut3, ↓zS_r3, ↓zS_r3D, ↓zS_nonI, ↓zS_nonN, ↓zS_ownO, ↓zS_ms, ↓zS_sm, ↓zS_mm]
  refine ribbons_ok ha (by omega) ?_
  simp only [notB_eq, ↓zHd0, zHp0, ↓zGd0, ↓zGd1, ↓zGd2, ↓zGd3, ↓zGd4, zGp0, startD, ↓List.map_cons, ↓List.map_nil, ↓List.length_cons, ↓List.length_nil, Nat.reduceAdd, Nat.reduceSub, Nat.sub_self, List.replicate, ↓List.cons_append, ↓List.nil_append, List.append_nil, ↓List.getElem?_cons_zero, ↓List.getElem?_cons_succ, ↓List.set_cons_zero, ↓List.set_cons_succ, wipeD, Bool.not_true, Bool.not_false, decide_true, decide_false, beq_self_eq_true, true_and, and_true, Nat.reduceLeDiff, toDs, toDk, toDs_sh, ↓zS_ii, ↓zS_bi, ↓zS_bb, ↓zS_tt, ↓zS_ll, ↓zS_lt, ↓zS_lk, ↓zS_cut3, ↓zS_r3, ↓zS_r3D, ↓zS_nonI, ↓zS_nonN, ↓zS_ownO, ↓zS_ms, ↓zS_sm, ↓zS_mm]
  refine ownL_ok (ds := A.map pcD) rfl ?_
  refine ⟨pl_sz (u := A) (by omega), ?_⟩
  have e0 : A.filter (fun p => !decide (p ∈ A)) = [] := List.filter_eq_nil_iff.mpr fun p hp => by rw [decide_eq_true hp]; decide
  refine lc_fof (α := Pc) pcD pcD (fun p => !decide (p ∈ A)) A [] (fun p hp R hR => ?_) (fun p hp _ R hR => ?_) ?_
  · have key : oInO true 5 S_Heap___contains__ (pcD p) (hpD A) (fun d => blD d R) := by
      unfold hpD
      rw [z_ninO]
      refine ⟨rfl, ?_⟩
      refine has_ok (Q := inQ true (fun d => blD d R)) ha (by omega) (ha p hp) ?_
      rw [z_ninQ]
      simp only [↓zHd0, zHp0, ↓zGd0, ↓zGd1, ↓zGd2, ↓zGd3, ↓zGd4, zGp0, startD, ↓List.map_cons, ↓List.map_nil, ↓List.length_cons, ↓List.length_nil, Nat.reduceAdd, Nat.reduceSub, Nat.sub_self, List.replicate, ↓List.cons_append, ↓List.nil_append, List.append_nil, ↓List.getElem?_cons_zero, ↓List.getElem?_cons_succ, ↓List.set_cons_zero, ↓List.set_cons_succ, wipeD, Bool.not_true, Bool.not_false, decide_true, decide_false, beq_self_eq_true, true_and, and_true, Nat.reduceLeDiff, toDs, toDk, toDs_sh, ↓zS_ii, ↓zS_bi, ↓zS_bb, ↓zS_tt, ↓zS_ll, ↓zS_lt, ↓zS_lk, ↓zS_cut3, ↓zS_r3, ↓zS_r3D, ↓zS_nonI, ↓zS_nonN, ↓zS_ownO, ↓zS_ms, ↓zS_sm, ↓zS_mm]
      exact hR
    simp only [↓zHd0, zHp0, ↓zGd0, ↓zGd1, ↓zGd2, ↓zGd3, ↓zGd4, zGp0, startD, ↓List.map_cons, ↓List.map_nil, ↓List.length_cons, ↓List.length_nil, Nat.reduceAdd, Nat.reduceSub, Nat.sub_self, List.replicate, ↓List.cons_append, ↓List.nil_append, List.append_nil, ↓List.getElem?_cons_zero, ↓List.getElem?_cons_succ, ↓List.set_cons_zero, ↓List.set_cons_succ, wipeD, Bool.not_true, Bool.not_false, decide_true, decide_false, beq_self_eq_true, true_and, and_true, Nat.reduceLeDiff, toDs, toDk, toDs_sh, ↓zS_ii, ↓zS_bi, ↓zS_bb, ↓zS_tt, ↓zS_ll, ↓zS_lt, ↓zS_lk, ↓zS_cut3, ↓zS_r3, ↓zS_r3D, ↓zS_nonI, ↓zS_nonN, ↓zS_ownO, ↓zS_ms, ↓zS_sm, ↓zS_mm]
    exact key
  · simp only [↓zHd0, zHp0, ↓zGd0, ↓zGd1, ↓zGd2, ↓zGd3, ↓zGd4, zGp0, startD, ↓List.map_cons, ↓List.map_nil, ↓List.length_cons, ↓List.length_nil, Nat.reduceAdd, Nat.reduceSub, Nat.sub_self, List.replicate, ↓List.cons_append, ↓List.nil_append, List.append_nil, ↓List.getElem?_cons_zero, ↓List.getElem?_cons_succ, ↓List.set_cons_zero, ↓List.set_cons_succ, wipeD, Bool.not_true, Bool.not_false, decide_true, decide_false, beq_self_eq_true, true_and, and_true, Nat.reduceLeDiff, toDs, toDk, toDs_sh, ↓zS_ii, ↓zS_bi, ↓zS_bb, ↓zS_tt, ↓zS_ll, ↓zS_lt, ↓zS_lk, ↓zS_cut3, ↓zS_r3, ↓zS_r3D, ↓zS_nonI, ↓zS_nonN, ↓zS_ownO, ↓zS_ms, ↓zS_sm, ↓zS_mm]
    exact hR
  rw [List.nil_append, e0, List.map_nil]
  refine ⟨⟨rfl, rfl⟩, ?_⟩
  rw [eqb_nil]
  simp only [_law_right_at_11, ↓zHd0, zHp0, ↓zGd0, ↓zGd1, ↓zGd2, ↓zGd3, ↓zGd4, zGp0, startD, ↓List.map_cons, ↓List.map_nil, ↓List.length_cons, ↓List.length_nil, Nat.reduceAdd, Nat.reduceSub, Nat.sub_self, List.replicate, ↓List.cons_append, ↓List.nil_append, List.append_nil, ↓List.getElem?_cons_zero, ↓List.getElem?_cons_succ, ↓List.set_cons_zero, ↓List.set_cons_succ, wipeD, Bool.not_true, Bool.not_false, decide_true, decide_false, beq_self_eq_true, true_and, and_true, Nat.reduceLeDiff, toDs, toDk, toDs_sh, ↓zS_ii, ↓zS_bi, ↓zS_bb, ↓zS_tt, ↓zS_ll, ↓zS_lt, ↓zS_lk, ↓zS_cut3, ↓zS_r3, ↓zS_r3D, ↓zS_nonI, ↓zS_nonN, ↓zS_ownO, ↓zS_ms, ↓zS_sm, ↓zS_mm]
  refine ⟨pl_sz (u := A) (by omega), ?_⟩
  refine lc_fof (α := Pc) pcD pcD (fun p => false) A [] (fun p hp R hR => ?_) (fun p hp z R hR => nomatch z) ?_
  · simp only [↓zHd0, zHp0, ↓zGd0, ↓zGd1, ↓zGd2, ↓zGd3, ↓zGd4, zGp0, startD, ↓List.map_cons, ↓List.map_nil, ↓List.length_cons, ↓List.length_nil, Nat.reduceAdd, Nat.reduceSub, Nat.sub_self, List.replicate, ↓List.cons_append, ↓List.nil_append, List.append_nil, ↓List.getElem?_cons_zero, ↓List.getElem?_cons_succ, ↓List.set_cons_zero, ↓List.set_cons_succ, wipeD, Bool.not_true, Bool.not_false, decide_true, decide_false, beq_self_eq_true, true_and, and_true, Nat.reduceLeDiff, toDs, toDk, toDs_sh, ↓zS_ii, ↓zS_bi, ↓zS_bb, ↓zS_tt, ↓zS_ll, ↓zS_lt, ↓zS_lk, ↓zS_cut3, ↓zS_r3, ↓zS_r3D, ↓zS_nonI, ↓zS_nonN, ↓zS_ownO, ↓zS_ms, ↓zS_sm, ↓zS_mm]
    refine lcontr_ok ?_
    unfold hpD
    rw [z_inO]
    refine ⟨rfl, has_ok ha (by omega) (ha p hp).ctr ?_⟩
    rw [z_inQ]
    refine lcontr_ok ?_
    unfold lD
    rw [z_inP, any_pc]
    refine ⟨⟨pc_pl (ha p hp).ctr, lD_pl ha⟩, ?_⟩
    by_cases c : ctr p ∈ A
    · rw [decide_eq_true c]
      simp only [↓zHd0, zHp0, ↓zGd0, ↓zGd1, ↓zGd2, ↓zGd3, ↓zGd4, zGp0, startD, ↓List.map_cons, ↓List.map_nil, ↓List.length_cons, ↓List.length_nil, Nat.reduceAdd, Nat.reduceSub, Nat.sub_self, List.replicate, ↓List.cons_append, ↓List.nil_append, List.append_nil, ↓List.getElem?_cons_zero, ↓List.getElem?_cons_succ, ↓List.set_cons_zero, ↓List.set_cons_succ, wipeD, Bool.not_true, Bool.not_false, decide_true, decide_false, beq_self_eq_true, true_and, and_true, Nat.reduceLeDiff, toDs, toDk, toDs_sh, ↓zS_ii, ↓zS_bi, ↓zS_bb, ↓zS_tt, ↓zS_ll, ↓zS_lt, ↓zS_lk, ↓zS_cut3, ↓zS_r3, ↓zS_r3D, ↓zS_nonI, ↓zS_nonN, ↓zS_ownO, ↓zS_ms, ↓zS_sm, ↓zS_mm]
      exact hR
    · rw [decide_eq_false c]
      simp only [↓zHd0, zHp0, ↓zGd0, ↓zGd1, ↓zGd2, ↓zGd3, ↓zGd4, zGp0, startD, ↓List.map_cons, ↓List.map_nil, ↓List.length_cons, ↓List.length_nil, Nat.reduceAdd, Nat.reduceSub, Nat.sub_self, List.replicate, ↓List.cons_append, ↓List.nil_append, List.append_nil, ↓List.getElem?_cons_zero, ↓List.getElem?_cons_succ, ↓List.set_cons_zero, ↓List.set_cons_succ, wipeD, Bool.not_true, Bool.not_false, decide_true, decide_false, beq_self_eq_true, true_and, and_true, Nat.reduceLeDiff, toDs, toDk, toDs_sh, ↓zS_ii, ↓zS_bi, ↓zS_bb, ↓zS_tt, ↓zS_ll, ↓zS_lt, ↓zS_lk, ↓zS_cut3, ↓zS_r3, ↓zS_r3D, ↓zS_nonI, ↓zS_nonN, ↓zS_ownO, ↓zS_ms, ↓zS_sm, ↓zS_mm]
      exact hR
  · rw [show (A.filter fun _ => false) = [] from List.filter_eq_nil_iff.mpr fun _ _ => by decide]
    rw [List.nil_append, List.map_nil]
    refine ⟨⟨rfl, rfl⟩, ?_⟩
    rw [eqb_nil]
    exact hN
theorem right_ok {A : List Pc} {Q : D → Prop} (ha : Okl A) (hl : A.length ≤ 14) (hq : Q (.bl true)) : S__law_right [hpD A, lD A] Q := by
  refine ⟨rfl, ?_⟩
  show t__law_right _ [some (.sh (hpD A)), some (.sh (lD A)), none, none, none, none, none, none, none, none]
  refine right_2 ha (by omega) (right_3 ha (by omega) ?_)
  have key := right_l (W := { nx := _law_right_at_9 { nx := fun _ => Q .non, rt := Q }, rt := Q }) ha hl (fun o4 o5 o6 => right_9 ha hl hq) 3 0 none none none
  unfold Sq at key
  simp only [_law_right_at_3, ↓zHd0, zHp0, ↓zGd0, ↓zGd1, ↓zGd2, ↓zGd3, ↓zGd4, zGp0, startD, ↓List.map_cons, ↓List.map_nil, ↓List.length_cons, ↓List.length_nil, Nat.reduceAdd, Nat.reduceSub, Nat.sub_self, List.replicate, ↓List.cons_append, ↓List.nil_append, List.append_nil, ↓List.getElem?_cons_zero, ↓List.getElem?_cons_succ, ↓List.set_cons_zero, ↓List.set_cons_succ, wipeD, Bool.not_true, Bool.not_false, decide_true, decide_false, beq_self_eq_true, true_and, and_true, Nat.reduceLeDiff, toDs, toDk, toDs_sh, ↓zS_ii, ↓zS_bi, ↓zS_bb, ↓zS_tt, ↓zS_ll, ↓zS_lt, ↓zS_lk, ↓zS_cut3, ↓zS_r3, ↓zS_r3D, ↓zS_nonI, ↓zS_nonN, ↓zS_ownO, ↓zS_ms, ↓zS_sm, ↓zS_mm]
  exact ⟨by decide, key⟩
theorem handed_ok {u : List Pc} {Q : OD → Prop} (hl : u.length ≤ 100000) (h1 : Q (oP u)) (h2 : Q (.sh (.tup (u.map pcD)))) : S__law_handed [.bag, lD u] Q := by
  refine ⟨rfl, ?_⟩
  unfold lD
  simp only [t__law_handed, ↓zHd0, zHp0, ↓zGd0, ↓zGd1, ↓zGd2, ↓zGd3, ↓zGd4, zGp0, startD, ↓List.map_cons, ↓List.map_nil, ↓List.length_cons, ↓List.length_nil, Nat.reduceAdd, Nat.reduceSub, Nat.sub_self, List.replicate, ↓List.cons_append, ↓List.nil_append, List.append_nil, ↓List.getElem?_cons_zero, ↓List.getElem?_cons_succ, ↓List.set_cons_zero, ↓List.set_cons_succ, wipeD, Bool.not_true, Bool.not_false, decide_true, decide_false, beq_self_eq_true, true_and, and_true, Nat.reduceLeDiff, toDs, toDk, toDs_sh, ↓zS_ii, ↓zS_bi, ↓zS_bb, ↓zS_tt, ↓zS_ll, ↓zS_lt, ↓zS_lk, ↓zS_cut3, ↓zS_r3, ↓zS_r3D, ↓zS_nonI, ↓zS_nonN, ↓zS_ownO, ↓zS_ms, ↓zS_sm, ↓zS_mm]
  refine take_ok (by decide) (by decide) fun v v0 v1 => ?_
  have c : v = 0 ∨ v = 1 := by omega
  rcases c with rfl | rfl
  · exact ixO_ok (by decide) rfl h1
  · exact ixO_ok (by decide) rfl h2
theorem pairs_q (p : Pc) (u : List Pc) : ∀ k : Nat, Qq ((List.replicate k [p, ctr p]).flatten ++ u) u
  | 0 => by rw [List.replicate_zero, List.flatten_nil, List.nil_append]; exact Qq.refl u
  | k + 1 => by
    rw [List.replicate_succ, List.flatten_cons, List.append_assoc]
    exact Qq.app (Qq.pair p) (pairs_q p u k)
theorem pairs_len (p : Pc) (k : Nat) : ((List.replicate k [p, ctr p]).flatten).length = 2 * k := by
  induction k with
  | zero => rfl
  | succ k ih => rw [List.replicate_succ, List.flatten_cons, List.length_append, ih]; show 2 + 2 * k = _; omega
theorem pairs_mem {p x : Pc} {k : Nat} (h : x ∈ (List.replicate k [p, ctr p]).flatten) : x = p ∨ x = ctr p := by
  obtain ⟨l, hl, hx⟩ := List.mem_flatten.mp h
  have hl := (List.mem_replicate.mp hl).2
  subst hl
  simpa using hx
abbrev SL (o2 o3 o4 o5 o6 o7 o8 o9 o10 o11 o12 : Option SD) : DS := [none, some (.sh .bag), o2, o3, o4, o5, o6, o7, o8, o9, o10, o11, o12]
section
variable {u w : List Pc} {W : DEnds} {o2 o3 o4 o5 o6 o7 o8 o9 o10 o11 o12 : Option SD}
theorem law_16 (hu : Okl u) (lu : u.length ≤ 14) (hN : W.nx (SL o2 o3 o4 (some (.sh (lD (Nn u)))) o6 o7 (some (.sh (hpD (Nn u)))) o9 o10 o11 o12)) : law_at_16 W (SL o2 o3 o4 (some (.sh (lD (Nn u)))) o6 o7 (some (.sh (hpD (Nn u)))) o9 o10 o11 o12) := by
  simp only [law_at_16, ↓zHd0, zHp0, ↓zGd0, ↓zGd1, ↓zGd2, ↓zGd3, ↓zGd4, zGp0, startD, ↓List.map_cons, ↓List.map_nil, ↓List.length_cons, ↓List.length_nil, Nat.reduceAdd, Nat.reduceSub, Nat.sub_self, List.replicate, ↓List.cons_append, ↓List.nil_append, List.append_nil, ↓List.getElem?_cons_zero, ↓List.getElem?_cons_succ, ↓List.set_cons_zero, ↓List.set_cons_succ, wipeD, Bool.not_true, Bool.not_false, decide_true, decide_false, beq_self_eq_true, true_and, and_true, Nat.reduceLeDiff, toDs, toDk, toDs_sh, ↓zS_ii, ↓zS_bi, ↓zS_bb, ↓zS_tt, ↓zS_ll, ↓zS_lt, ↓zS_lk, ↓zS_cut3, ↓zS_r3, ↓zS_r3D, ↓zS_nonI, ↓zS_nonN, ↓zS_ownO, ↓zS_ms, ↓zS_sm, ↓zS_mm]
  refine right_ok (Nn_okl hu) (by have := Nn_le u; omega) ?_
  simp only [notB_eq, ↓zHd0, zHp0, ↓zGd0, ↓zGd1, ↓zGd2, ↓zGd3, ↓zGd4, zGp0, startD, ↓List.map_cons, ↓List.map_nil, ↓List.length_cons, ↓List.length_nil, Nat.reduceAdd, Nat.reduceSub, Nat.sub_self, List.replicate, ↓List.cons_append, ↓List.nil_append, List.append_nil, ↓List.getElem?_cons_zero, ↓List.getElem?_cons_succ, ↓List.set_cons_zero, ↓List.set_cons_succ, wipeD, Bool.not_true, Bool.not_false, decide_true, decide_false, beq_self_eq_true, true_and, and_true, Nat.reduceLeDiff, toDs, toDk, toDs_sh, ↓zS_ii, ↓zS_bi, ↓zS_bb, ↓zS_tt, ↓zS_ll, ↓zS_lt, ↓zS_lk, ↓zS_cut3, ↓zS_r3, ↓zS_r3D, ↓zS_nonI, ↓zS_nonN, ↓zS_ownO, ↓zS_ms, ↓zS_sm, ↓zS_mm]
  exact hN
theorem law_12o {v : V} (hw : Okl w) (lw : w.length ≤ 1000) (hu : Okl u) (lu : u.length ≤ 14) (hN : ∀ o7 o8, W.nx (SL o2 (some (.sh (lD w))) o4 (some (.sh (lD (Nn u)))) o6 o7 o8 o9 o10 o11 o12)) : law_at_12 W (SL o2 (some (.sh (lD w))) o4 (some (.sh (lD (Nn u)))) o6 (some (.ow v (oP w))) (some (.sh (hpD (Nn u)))) o9 o10 o11 o12) := by
  have go := fun o7 => law_16 (W := W) (o2 := o2) (o3 := some (.sh (lD w))) (o4 := o4) (o6 := o6) (o7 := o7) (o9 := o9) (o10 := o10) (o11 := o11) (o12 := o12) hu lu (hN o7 _)
  have e4 : ∀ Q : D → Prop, oNe (.lst (w.map pcD)) (lD w) Q = ((DL.plain (lD w) = true ∧ DL.plain (lD w) = true) ∧ Q (.bl (!eqb (lD w) (lD w)))) := fun Q => propext Iff.rfl
  simp only [law_at_12, oP_D, ↓zHd0, zHp0, ↓zGd0, ↓zGd1, ↓zGd2, ↓zGd3, ↓zGd4, zGp0, startD, ↓List.map_cons, ↓List.map_nil, ↓List.length_cons, ↓List.length_nil, Nat.reduceAdd, Nat.reduceSub, Nat.sub_self, List.replicate, ↓List.cons_append, ↓List.nil_append, List.append_nil, ↓List.getElem?_cons_zero, ↓List.getElem?_cons_succ, ↓List.set_cons_zero, ↓List.set_cons_succ, wipeD, Bool.not_true, Bool.not_false, decide_true, decide_false, beq_self_eq_true, true_and, and_true, Nat.reduceLeDiff, toDs, toDk, toDs_sh, ↓zS_ii, ↓zS_bi, ↓zS_bb, ↓zS_tt, ↓zS_ll, ↓zS_lt, ↓zS_lk, ↓zS_cut3, ↓zS_r3, ↓zS_r3D, ↓zS_nonI, ↓zS_nonN, ↓zS_ownO, ↓zS_ms, ↓zS_sm, ↓zS_mm]
  rw [e4, lD_eqb, decide_eq_true (show w = w from rfl)]
  refine ⟨⟨lD_pl hw, lD_pl hw⟩, ?_⟩
  simp only [law_at_14, oP_D, ↓zHd0, zHp0, ↓zGd0, ↓zGd1, ↓zGd2, ↓zGd3, ↓zGd4, zGp0, startD, ↓List.map_cons, ↓List.map_nil, ↓List.length_cons, ↓List.length_nil, Nat.reduceAdd, Nat.reduceSub, Nat.sub_self, List.replicate, ↓List.cons_append, ↓List.nil_append, List.append_nil, ↓List.getElem?_cons_zero, ↓List.getElem?_cons_succ, ↓List.set_cons_zero, ↓List.set_cons_succ, wipeD, Bool.not_true, Bool.not_false, decide_true, decide_false, beq_self_eq_true, true_and, and_true, Nat.reduceLeDiff, toDs, toDk, toDs_sh, ↓zS_ii, ↓zS_bi, ↓zS_bb, ↓zS_tt, ↓zS_ll, ↓zS_lt, ↓zS_lk, ↓zS_cut3, ↓zS_r3, ↓zS_r3D, ↓zS_nonI, ↓zS_nonN, ↓zS_ownO, ↓zS_ms, ↓zS_sm, ↓zS_mm]
  refine ⟨by rw [List.length_map, List.length_map, sizeLine_eq]; omega, ?_⟩
  have h7 : (SL o2 (some (.sh (lD w))) o4 (some (.sh (lD (Nn u)))) o6 (some (.ow v (oP w))) (some (.sh (hpD (Nn u)))) o9 o10 o11 o12)[7]? = some (some (.ow v (oP w))) := rfl
  rw [putS_at h7]
  generalize some (SD.ow v (DL.setO (oP w) [] (OD.lst (List.map OD.sh (List.map pcD w) ++ [OD.sh (D.tup [D.int 0, D.int 0, D.bl true, D.bl true])])))) = z
  exact go z
theorem law_12t (hw : Okl w) (lw : w.length ≤ 1000) (hu : Okl u) (lu : u.length ≤ 14) (hN : ∀ o7 o8, W.nx (SL o2 (some (.sh (lD w))) o4 (some (.sh (lD (Nn u)))) o6 o7 o8 o9 o10 o11 o12)) : law_at_12 W (SL o2 (some (.sh (lD w))) o4 (some (.sh (lD (Nn u)))) o6 (some (.sh (.tup (w.map pcD)))) (some (.sh (hpD (Nn u)))) o9 o10 o11 o12) := by
  have go := fun o7 => law_16 (W := W) (o2 := o2) (o3 := some (.sh (lD w))) (o4 := o4) (o6 := o6) (o7 := o7) (o9 := o9) (o10 := o10) (o11 := o11) (o12 := o12) hu lu (hN o7 _)
  have e4 : ∀ Q : D → Prop, oNe (.lst (w.map pcD)) (lD w) Q = ((DL.plain (lD w) = true ∧ DL.plain (lD w) = true) ∧ Q (.bl (!eqb (lD w) (lD w)))) := fun Q => propext Iff.rfl
  simp only [law_at_12, ↓zHd0, zHp0, ↓zGd0, ↓zGd1, ↓zGd2, ↓zGd3, ↓zGd4, zGp0, startD, ↓List.map_cons, ↓List.map_nil, ↓List.length_cons, ↓List.length_nil, Nat.reduceAdd, Nat.reduceSub, Nat.sub_self, List.replicate, ↓List.cons_append, ↓List.nil_append, List.append_nil, ↓List.getElem?_cons_zero, ↓List.getElem?_cons_succ, ↓List.set_cons_zero, ↓List.set_cons_succ, wipeD, Bool.not_true, Bool.not_false, decide_true, decide_false, beq_self_eq_true, true_and, and_true, Nat.reduceLeDiff, toDs, toDk, toDs_sh, ↓zS_ii, ↓zS_bi, ↓zS_bb, ↓zS_tt, ↓zS_ll, ↓zS_lt, ↓zS_lk, ↓zS_cut3, ↓zS_r3, ↓zS_r3D, ↓zS_nonI, ↓zS_nonN, ↓zS_ownO, ↓zS_ms, ↓zS_sm, ↓zS_mm]
  rw [e4, lD_eqb, decide_eq_true (show w = w from rfl)]
  refine ⟨⟨lD_pl hw, lD_pl hw⟩, ?_⟩
  simp only [law_at_14, ↓zHd0, zHp0, ↓zGd0, ↓zGd1, ↓zGd2, ↓zGd3, ↓zGd4, zGp0, startD, ↓List.map_cons, ↓List.map_nil, ↓List.length_cons, ↓List.length_nil, Nat.reduceAdd, Nat.reduceSub, Nat.sub_self, List.replicate, ↓List.cons_append, ↓List.nil_append, List.append_nil, ↓List.getElem?_cons_zero, ↓List.getElem?_cons_succ, ↓List.set_cons_zero, ↓List.set_cons_succ, wipeD, Bool.not_true, Bool.not_false, decide_true, decide_false, beq_self_eq_true, true_and, and_true, Nat.reduceLeDiff, toDs, toDk, toDs_sh, ↓zS_ii, ↓zS_bi, ↓zS_bb, ↓zS_tt, ↓zS_ll, ↓zS_lt, ↓zS_lk, ↓zS_cut3, ↓zS_r3, ↓zS_r3D, ↓zS_nonI, ↓zS_nonN, ↓zS_ownO, ↓zS_ms, ↓zS_sm, ↓zS_mm]
  rw [show isi "list" (D.tup (w.map pcD)) = false by rfl]
  simp only [↓zHd0, zHp0, ↓zGd0, ↓zGd1, ↓zGd2, ↓zGd3, ↓zGd4, zGp0, startD, ↓List.map_cons, ↓List.map_nil, ↓List.length_cons, ↓List.length_nil, Nat.reduceAdd, Nat.reduceSub, Nat.sub_self, List.replicate, ↓List.cons_append, ↓List.nil_append, List.append_nil, ↓List.getElem?_cons_zero, ↓List.getElem?_cons_succ, ↓List.set_cons_zero, ↓List.set_cons_succ, wipeD, Bool.not_true, Bool.not_false, decide_true, decide_false, beq_self_eq_true, true_and, and_true, Nat.reduceLeDiff, toDs, toDk, toDs_sh, ↓zS_ii, ↓zS_bi, ↓zS_bb, ↓zS_tt, ↓zS_ll, ↓zS_lt, ↓zS_lk, ↓zS_cut3, ↓zS_r3, ↓zS_r3D, ↓zS_nonI, ↓zS_nonN, ↓zS_ownO, ↓zS_ms, ↓zS_sm, ↓zS_mm]
  exact go _
theorem law_10 (hw : Okl w) (lw : w.length ≤ 1000) (hu : Okl u) (lu : u.length ≤ 14) (hq : Nn w = Nn u) (hN : ∀ o7 o8, W.nx (SL o2 (some (.sh (lD w))) o4 (some (.sh (lD (Nn u)))) o6 o7 o8 o9 o10 o11 o12)) : law_at_10 W (SL o2 (some (.sh (lD w))) o4 (some (.sh (lD (Nn u)))) o6 o7 o8 o9 o10 o11 o12) := by
  have go1 := fun v => law_12o (W := W) (v := v) (o2 := o2) (o4 := o4) (o6 := o6) (o9 := o9) (o10 := o10) (o11 := o11) (o12 := o12) hw lw hu lu hN
  have go2 := law_12t (W := W) (o2 := o2) (o4 := o4) (o6 := o6) (o9 := o9) (o10 := o10) (o11 := o11) (o12 := o12) hw lw hu lu hN
  simp only [law_at_10, ↓zHd0, zHp0, ↓zGd0, ↓zGd1, ↓zGd2, ↓zGd3, ↓zGd4, zGp0, startD, ↓List.map_cons, ↓List.map_nil, ↓List.length_cons, ↓List.length_nil, Nat.reduceAdd, Nat.reduceSub, Nat.sub_self, List.replicate, ↓List.cons_append, ↓List.nil_append, List.append_nil, ↓List.getElem?_cons_zero, ↓List.getElem?_cons_succ, ↓List.set_cons_zero, ↓List.set_cons_succ, wipeD, Bool.not_true, Bool.not_false, decide_true, decide_false, beq_self_eq_true, true_and, and_true, Nat.reduceLeDiff, toDs, toDk, toDs_sh, ↓zS_ii, ↓zS_bi, ↓zS_bb, ↓zS_tt, ↓zS_ll, ↓zS_lt, ↓zS_lk, ↓zS_cut3, ↓zS_r3, ↓zS_r3D, ↓zS_nonI, ↓zS_nonN, ↓zS_ownO, ↓zS_ms, ↓zS_sm, ↓zS_mm]
  refine handed_ok (by omega) ?_ ?_
  · intro v
    simp only [law_at_11, ↓zHd0, zHp0, ↓zGd0, ↓zGd1, ↓zGd2, ↓zGd3, ↓zGd4, zGp0, startD, ↓List.map_cons, ↓List.map_nil, ↓List.length_cons, ↓List.length_nil, Nat.reduceAdd, Nat.reduceSub, Nat.sub_self, List.replicate, ↓List.cons_append, ↓List.nil_append, List.append_nil, ↓List.getElem?_cons_zero, ↓List.getElem?_cons_succ, ↓List.set_cons_zero, ↓List.set_cons_succ, wipeD, Bool.not_true, Bool.not_false, decide_true, decide_false, beq_self_eq_true, true_and, and_true, Nat.reduceLeDiff, toDs, toDk, toDs_sh, ↓zS_ii, ↓zS_bi, ↓zS_bb, ↓zS_tt, ↓zS_ll, ↓zS_lt, ↓zS_lk, ↓zS_cut3, ↓zS_r3, ↓zS_r3D, ↓zS_nonI, ↓zS_nonN, ↓zS_ownO, ↓zS_ms, ↓zS_sm, ↓zS_mm]
    refine ⟨w.map pcD, rfl, makeO_ok (Q := fun d => law_at_12 W (SL o2 (some (.sh (lD w))) o4 (some (.sh (lD (Nn u)))) o6 (some (.ow v (oP w))) (some (.sh d)) o9 o10 o11 o12)) hw (by omega) ?_⟩
    rw [hq]
    exact go1 v
  · intro v
    simp only [law_at_11, ↓zHd0, zHp0, ↓zGd0, ↓zGd1, ↓zGd2, ↓zGd3, ↓zGd4, zGp0, startD, ↓List.map_cons, ↓List.map_nil, ↓List.length_cons, ↓List.length_nil, Nat.reduceAdd, Nat.reduceSub, Nat.sub_self, List.replicate, ↓List.cons_append, ↓List.nil_append, List.append_nil, ↓List.getElem?_cons_zero, ↓List.getElem?_cons_succ, ↓List.set_cons_zero, ↓List.set_cons_succ, wipeD, Bool.not_true, Bool.not_false, decide_true, decide_false, beq_self_eq_true, true_and, and_true, Nat.reduceLeDiff, toDs, toDk, toDs_sh, ↓zS_ii, ↓zS_bi, ↓zS_bb, ↓zS_tt, ↓zS_ll, ↓zS_lt, ↓zS_lk, ↓zS_cut3, ↓zS_r3, ↓zS_r3D, ↓zS_nonI, ↓zS_nonN, ↓zS_ownO, ↓zS_ms, ↓zS_sm, ↓zS_mm]
    refine make_ok (Q := fun d => law_at_12 W (SL o2 (some (.sh (lD w))) o4 (some (.sh (lD (Nn u)))) o6 (some (.sh (.tup (w.map pcD)))) (some (.sh d)) o9 o10 o11 o12)) (sqd_t w) hw (by omega) ?_
    rw [hq]
    exact go2
end
section
variable {u w : List Pc} {W : DEnds} {o2 o3 o4 o5 o6 o7 o8 o9 o10 o11 o12 : Option SD}
theorem law_7 (hu : Okl u) (lu : u.length ≤ 14) (hN : ∀ o3 o6 o7 o8, W.nx (SL o2 o3 o4 (some (.sh (lD (Nn u)))) o6 o7 o8 o9 o10 o11 o12)) : law_at_7 W (SL o2 (some (.sh (lD u))) o4 (some (.sh (lD (Nn u)))) o6 o7 o8 o9 o10 o11 o12) := by
  have g0 := law_10 (W := W) (o2 := o2) (o4 := o4) (o6 := o6) (o7 := o7) (o8 := o8) (o9 := o9) (o10 := o10) (o11 := o11) (o12 := o12) hu (by omega) hu lu rfl (hN _ _)
  have g1 := fun w o6 (hw : Okl w) lw hq => law_10 (W := W) (w := w) (o2 := o2) (o4 := o4) (o6 := o6) (o7 := o7) (o8 := o8) (o9 := o9) (o10 := o10) (o11 := o11) (o12 := o12) hw lw hu lu hq (hN _ _)
  simp only [law_at_7, ↓zHd0, zHp0, ↓zGd0, ↓zGd1, ↓zGd2, ↓zGd3, ↓zGd4, zGp0, startD, ↓List.map_cons, ↓List.map_nil, ↓List.length_cons, ↓List.length_nil, Nat.reduceAdd, Nat.reduceSub, Nat.sub_self, List.replicate, ↓List.cons_append, ↓List.nil_append, List.append_nil, ↓List.getElem?_cons_zero, ↓List.getElem?_cons_succ, ↓List.set_cons_zero, ↓List.set_cons_succ, wipeD, Bool.not_true, Bool.not_false, decide_true, decide_false, beq_self_eq_true, true_and, and_true, Nat.reduceLeDiff, toDs, toDk, toDs_sh, ↓zS_ii, ↓zS_bi, ↓zS_bb, ↓zS_tt, ↓zS_ll, ↓zS_lt, ↓zS_lk, ↓zS_cut3, ↓zS_r3, ↓zS_r3D, ↓zS_nonI, ↓zS_nonN, ↓zS_ownO, ↓zS_ms, ↓zS_sm, ↓zS_mm]
  refine take_ok (by decide) (by decide) fun v v0 v1 => ?_
  simp only [↓zHd0, zHp0, ↓zGd0, ↓zGd1, ↓zGd2, ↓zGd3, ↓zGd4, zGp0, startD, ↓List.map_cons, ↓List.map_nil, ↓List.length_cons, ↓List.length_nil, Nat.reduceAdd, Nat.reduceSub, Nat.sub_self, List.replicate, ↓List.cons_append, ↓List.nil_append, List.append_nil, ↓List.getElem?_cons_zero, ↓List.getElem?_cons_succ, ↓List.set_cons_zero, ↓List.set_cons_succ, wipeD, Bool.not_true, Bool.not_false, decide_true, decide_false, beq_self_eq_true, true_and, and_true, Nat.reduceLeDiff, toDs, toDk, toDs_sh, ↓zS_ii, ↓zS_bi, ↓zS_bb, ↓zS_tt, ↓zS_ll, ↓zS_lt, ↓zS_lk, ↓zS_cut3, ↓zS_r3, ↓zS_r3D, ↓zS_nonI, ↓zS_nonN, ↓zS_ownO, ↓zS_ms, ↓zS_sm, ↓zS_mm]
  by_cases c : v = 0
  · rw [iteS_pos c]
    simp only [↓zHd0, zHp0, ↓zGd0, ↓zGd1, ↓zGd2, ↓zGd3, ↓zGd4, zGp0, startD, ↓List.map_cons, ↓List.map_nil, ↓List.length_cons, ↓List.length_nil, Nat.reduceAdd, Nat.reduceSub, Nat.sub_self, List.replicate, ↓List.cons_append, ↓List.nil_append, List.append_nil, ↓List.getElem?_cons_zero, ↓List.getElem?_cons_succ, ↓List.set_cons_zero, ↓List.set_cons_succ, wipeD, Bool.not_true, Bool.not_false, decide_true, decide_false, beq_self_eq_true, true_and, and_true, Nat.reduceLeDiff, toDs, toDk, toDs_sh, ↓zS_ii, ↓zS_bi, ↓zS_bb, ↓zS_tt, ↓zS_ll, ↓zS_lt, ↓zS_lk, ↓zS_cut3, ↓zS_r3, ↓zS_r3D, ↓zS_nonI, ↓zS_nonN, ↓zS_ownO, ↓zS_ms, ↓zS_sm, ↓zS_mm]
    refine lpiece_ok (by decide) (by decide) (by decide) (by decide) fun p hp => ?_
    simp only [law_at_9, ↓zHd0, zHp0, ↓zGd0, ↓zGd1, ↓zGd2, ↓zGd3, ↓zGd4, zGp0, startD, ↓List.map_cons, ↓List.map_nil, ↓List.length_cons, ↓List.length_nil, Nat.reduceAdd, Nat.reduceSub, Nat.sub_self, List.replicate, ↓List.cons_append, ↓List.nil_append, List.append_nil, ↓List.getElem?_cons_zero, ↓List.getElem?_cons_succ, ↓List.set_cons_zero, ↓List.set_cons_succ, wipeD, Bool.not_true, Bool.not_false, decide_true, decide_false, beq_self_eq_true, true_and, and_true, Nat.reduceLeDiff, toDs, toDk, toDs_sh, ↓zS_ii, ↓zS_bi, ↓zS_bb, ↓zS_tt, ↓zS_ll, ↓zS_lt, ↓zS_lk, ↓zS_cut3, ↓zS_r3, ↓zS_r3D, ↓zS_nonI, ↓zS_nonN, ↓zS_ownO, ↓zS_ms, ↓zS_sm, ↓zS_mm]
    refine lcontr_ok ?_
    refine take_ok (by decide) (by decide) fun k k0 k1 => ?_
    rw [z_mulL]
    refine ⟨⟨by omega, by omega, ?_⟩, ?_⟩
    · show 2 * k.toNat ≤ sizeLine
      rw [sizeLine_eq]; omega
    have e : (List.replicate k.toNat [pcD p, pcD (ctr p)]).flatten ++ u.map pcD = ((List.replicate k.toNat [p, ctr p]).flatten ++ u).map pcD := by
      rw [List.map_append, List.map_flatten, List.map_replicate]; rfl
    have len : ((List.replicate k.toNat [p, ctr p]).flatten ++ u).length ≤ 1000 := by
      rw [List.length_append, pairs_len]; omega
    show oAdd (.lst (List.replicate k.toNat [pcD p, pcD (ctr p)]).flatten) (.lst (u.map pcD)) _
    rw [z_addL]
    refine ⟨?_, ?_⟩
    · rw [← List.length_append, e, List.length_map, sizeLine_eq]; omega
    rw [e]
    refine g1 _ _ (fun x hx => ?_) len (Nn_q (pairs_q p u _))
    rcases List.mem_append.mp hx with h | h
    · rcases pairs_mem h with rfl | rfl
      · exact hp.ok
      · exact hp.ok.ctr
    · exact hu x h
  · rw [iteS_neg c]
    simp only [↓zHd0, zHp0, ↓zGd0, ↓zGd1, ↓zGd2, ↓zGd3, ↓zGd4, zGp0, startD, ↓List.map_cons, ↓List.map_nil, ↓List.length_cons, ↓List.length_nil, Nat.reduceAdd, Nat.reduceSub, Nat.sub_self, List.replicate, ↓List.cons_append, ↓List.nil_append, List.append_nil, ↓List.getElem?_cons_zero, ↓List.getElem?_cons_succ, ↓List.set_cons_zero, ↓List.set_cons_succ, wipeD, Bool.not_true, Bool.not_false, decide_true, decide_false, beq_self_eq_true, true_and, and_true, Nat.reduceLeDiff, toDs, toDk, toDs_sh, ↓zS_ii, ↓zS_bi, ↓zS_bb, ↓zS_tt, ↓zS_ll, ↓zS_lt, ↓zS_lk, ↓zS_cut3, ↓zS_r3, ↓zS_r3D, ↓zS_nonI, ↓zS_nonN, ↓zS_ownO, ↓zS_ms, ↓zS_sm, ↓zS_mm]
    exact g0
def shF (f : Int) (p : Pc) : Pc := (p.1 + f, p.2.1, p.2.2.1, p.2.2.2)
theorem shF_okl {f : Int} (f0 : 0 ≤ f) (f1 : f ≤ 10 ^ 39) (hu : Okls u) : Okl (u.map (shF f)) := fun x hx => by
  obtain ⟨p, hp, rfl⟩ := List.mem_map.mp hx
  have h := hu p hp
  have h1 := h.i0
  have h2 := h.i1
  refine ⟨?_, int_fine ?_ ?_, h.ok.j0, h.ok.j1⟩
  · show 0 ≤ p.1 + f
    omega
  · show 0 ≤ p.1 + f
    omega
  · show p.1 + f ≤ 10 ^ 40
    omega
theorem law_5 {f : Int} (f0 : 0 ≤ f) (f1 : f ≤ 10 ^ 39) (hu : Okls u) (lu : u.length ≤ 14) (hN : ∀ o3 o5 o6 o7 o8, W.nx (SL o2 o3 (some (.sh (.int f))) o5 o6 o7 o8 o9 o10 o11 o12)) : law_at_5 W (SL o2 (some (.sh (lD u))) (some (.sh (.int f))) o5 o6 o7 o8 o9 o10 o11 o12) := by
  have ok := shF_okl f0 f1 hu
  have go := law_7 (u := u.map (shF f)) (W := W) (o2 := o2) (o4 := some (.sh (.int f))) (o6 := o6) (o7 := o7) (o8 := o8) (o9 := o9) (o10 := o10) (o11 := o11) (o12 := o12) ok (by rw [List.length_map]; exact lu) fun _ _ _ _ => hN _ _ _ _ _
  simp only [law_at_5, ↓zHd0, zHp0, ↓zGd0, ↓zGd1, ↓zGd2, ↓zGd3, ↓zGd4, zGp0, startD, ↓List.map_cons, ↓List.map_nil, ↓List.length_cons, ↓List.length_nil, Nat.reduceAdd, Nat.reduceSub, Nat.sub_self, List.replicate, ↓List.cons_append, ↓List.nil_append, List.append_nil, ↓List.getElem?_cons_zero, ↓List.getElem?_cons_succ, ↓List.set_cons_zero, ↓List.set_cons_succ, wipeD, Bool.not_true, Bool.not_false, decide_true, decide_false, beq_self_eq_true, true_and, and_true, Nat.reduceLeDiff, toDs, toDk, toDs_sh, ↓zS_ii, ↓zS_bi, ↓zS_bb, ↓zS_tt, ↓zS_ll, ↓zS_lt, ↓zS_lk, ↓zS_cut3, ↓zS_r3, ↓zS_r3D, ↓zS_nonI, ↓zS_nonN, ↓zS_ownO, ↓zS_ms, ↓zS_sm, ↓zS_mm]
  refine ⟨pl_sz (u := u) (by omega), ?_⟩
  refine lc_ofG pcD (fun p => pcD (shF f p)) (fun p => SL o2 (some (.sh (lD u))) (some (.sh (.int f))) o5 o6 o7 o8 (some (.sh (.int p.1))) (some (.sh (.int p.2.1))) (some (.sh (.bl p.2.2.1))) (some (.sh (.bl p.2.2.2)))) _ [] (fun z _ F hF => ?_) (fun z _ R hR => ?_) ?_
  · unfold pcD
    simp only [↓zHd0, zHp0, ↓zGd0, ↓zGd1, ↓zGd2, ↓zGd3, ↓zGd4, zGp0, startD, ↓List.map_cons, ↓List.map_nil, ↓List.length_cons, ↓List.length_nil, Nat.reduceAdd, Nat.reduceSub, Nat.sub_self, List.replicate, ↓List.cons_append, ↓List.nil_append, List.append_nil, ↓List.getElem?_cons_zero, ↓List.getElem?_cons_succ, ↓List.set_cons_zero, ↓List.set_cons_succ, wipeD, Bool.not_true, Bool.not_false, decide_true, decide_false, beq_self_eq_true, true_and, and_true, Nat.reduceLeDiff, toDs, toDk, toDs_sh, ↓zS_ii, ↓zS_bi, ↓zS_bb, ↓zS_tt, ↓zS_ll, ↓zS_lt, ↓zS_lk, ↓zS_cut3, ↓zS_r3, ↓zS_r3D, ↓zS_nonI, ↓zS_nonN, ↓zS_ownO, ↓zS_ms, ↓zS_sm, ↓zS_mm]
    exact hF
  · simp only [↓zHd0, zHp0, ↓zGd0, ↓zGd1, ↓zGd2, ↓zGd3, ↓zGd4, zGp0, startD, ↓List.map_cons, ↓List.map_nil, ↓List.length_cons, ↓List.length_nil, Nat.reduceAdd, Nat.reduceSub, Nat.sub_self, List.replicate, ↓List.cons_append, ↓List.nil_append, List.append_nil, ↓List.getElem?_cons_zero, ↓List.getElem?_cons_succ, ↓List.set_cons_zero, ↓List.set_cons_succ, wipeD, Bool.not_true, Bool.not_false, decide_true, decide_false, beq_self_eq_true, true_and, and_true, Nat.reduceLeDiff, toDs, toDk, toDs_sh, ↓zS_ii, ↓zS_bi, ↓zS_bb, ↓zS_tt, ↓zS_ll, ↓zS_lt, ↓zS_lk, ↓zS_cut3, ↓zS_r3, ↓zS_r3D, ↓zS_nonI, ↓zS_nonN, ↓zS_ownO, ↓zS_ms, ↓zS_sm, ↓zS_mm]
    exact hR
  · have e : (u.map fun p => pcD (shF f p)) = (u.map (shF f)).map pcD := by rw [List.map_map]; rfl
    rw [List.nil_append, e]
    simp only [law_at_6, ↓zHd0, zHp0, ↓zGd0, ↓zGd1, ↓zGd2, ↓zGd3, ↓zGd4, zGp0, startD, ↓List.map_cons, ↓List.map_nil, ↓List.length_cons, ↓List.length_nil, Nat.reduceAdd, Nat.reduceSub, Nat.sub_self, List.replicate, ↓List.cons_append, ↓List.nil_append, List.append_nil, ↓List.getElem?_cons_zero, ↓List.getElem?_cons_succ, ↓List.set_cons_zero, ↓List.set_cons_succ, wipeD, Bool.not_true, Bool.not_false, decide_true, decide_false, beq_self_eq_true, true_and, and_true, Nat.reduceLeDiff, toDs, toDk, toDs_sh, ↓zS_ii, ↓zS_bi, ↓zS_bb, ↓zS_tt, ↓zS_ll, ↓zS_lt, ↓zS_lk, ↓zS_cut3, ↓zS_r3, ↓zS_r3D, ↓zS_nonI, ↓zS_nonN, ↓zS_ownO, ↓zS_ms, ↓zS_sm, ↓zS_mm]
    refine heaped_ok ok (by rw [List.length_map]; omega) ?_
    exact go
theorem law_b (hN : ∀ o3 o4 o5 o6 o7 o8, W.nx (SL o2 o3 o4 o5 o6 o7 o8 o9 o10 o11 o12)) : b_law_1 W (SL o2 o3 o4 o5 o6 o7 o8 o9 o10 o11 o12) := by
  simp only [b_law_1, ↓zHd0, zHp0, ↓zGd0, ↓zGd1, ↓zGd2, ↓zGd3, ↓zGd4, zGp0, startD, ↓List.map_cons, ↓List.map_nil, ↓List.length_cons, ↓List.length_nil, Nat.reduceAdd, Nat.reduceSub, Nat.sub_self, List.replicate, ↓List.cons_append, ↓List.nil_append, List.append_nil, ↓List.getElem?_cons_zero, ↓List.getElem?_cons_succ, ↓List.set_cons_zero, ↓List.set_cons_succ, wipeD, Bool.not_true, Bool.not_false, decide_true, decide_false, beq_self_eq_true, true_and, and_true, Nat.reduceLeDiff, toDs, toDk, toDs_sh, ↓zS_ii, ↓zS_bi, ↓zS_bb, ↓zS_tt, ↓zS_ll, ↓zS_lt, ↓zS_lk, ↓zS_cut3, ↓zS_r3, ↓zS_r3D, ↓zS_nonI, ↓zS_nonN, ↓zS_ownO, ↓zS_ms, ↓zS_sm, ↓zS_mm]
  refine drawn_ok fun u hu lu => ?_
  simp only [law_at_4, ↓zHd0, zHp0, ↓zGd0, ↓zGd1, ↓zGd2, ↓zGd3, ↓zGd4, zGp0, startD, ↓List.map_cons, ↓List.map_nil, ↓List.length_cons, ↓List.length_nil, Nat.reduceAdd, Nat.reduceSub, Nat.sub_self, List.replicate, ↓List.cons_append, ↓List.nil_append, List.append_nil, ↓List.getElem?_cons_zero, ↓List.getElem?_cons_succ, ↓List.set_cons_zero, ↓List.set_cons_succ, wipeD, Bool.not_true, Bool.not_false, decide_true, decide_false, beq_self_eq_true, true_and, and_true, Nat.reduceLeDiff, toDs, toDk, toDs_sh, ↓zS_ii, ↓zS_bi, ↓zS_bb, ↓zS_tt, ↓zS_ll, ↓zS_lt, ↓zS_lk, ↓zS_cut3, ↓zS_r3, ↓zS_r3D, ↓zS_nonI, ↓zS_nonN, ↓zS_ownO, ↓zS_ms, ↓zS_sm, ↓zS_mm]
  refine ⟨⟨by decide, by decide, by decide +kernel⟩, ?_⟩
  refine take_ok (by decide) (by decide) fun v v0 v1 => ?_
  simp only [↓zHd0, zHp0, ↓zGd0, ↓zGd1, ↓zGd2, ↓zGd3, ↓zGd4, zGp0, startD, ↓List.map_cons, ↓List.map_nil, ↓List.length_cons, ↓List.length_nil, Nat.reduceAdd, Nat.reduceSub, Nat.sub_self, List.replicate, ↓List.cons_append, ↓List.nil_append, List.append_nil, ↓List.getElem?_cons_zero, ↓List.getElem?_cons_succ, ↓List.set_cons_zero, ↓List.set_cons_succ, wipeD, Bool.not_true, Bool.not_false, decide_true, decide_false, beq_self_eq_true, true_and, and_true, Nat.reduceLeDiff, toDs, toDk, toDs_sh, ↓zS_ii, ↓zS_bi, ↓zS_bb, ↓zS_tt, ↓zS_ll, ↓zS_lt, ↓zS_lk, ↓zS_cut3, ↓zS_r3, ↓zS_r3D, ↓zS_nonI, ↓zS_nonN, ↓zS_ownO, ↓zS_ms, ↓zS_sm, ↓zS_mm]
  have g0 := law_5 (f := 0) (W := W) (o2 := o2) (o5 := o5) (o6 := o6) (o7 := o7) (o8 := o8) (o9 := o9) (o10 := o10) (o11 := o11) (o12 := o12) (by decide) (by decide) hu lu fun _ _ _ _ _ => hN _ _ _ _ _ _
  have g1 := law_5 (f := 10 ^ 39) (W := W) (o2 := o2) (o5 := o5) (o6 := o6) (o7 := o7) (o8 := o8) (o9 := o9) (o10 := o10) (o11 := o11) (o12 := o12) (by decide) (by decide) hu lu fun _ _ _ _ _ => hN _ _ _ _ _ _
  by_cases c : v = 0
  · rw [decide_eq_true c]
    simp only [↓zHd0, zHp0, ↓zGd0, ↓zGd1, ↓zGd2, ↓zGd3, ↓zGd4, zGp0, startD, ↓List.map_cons, ↓List.map_nil, ↓List.length_cons, ↓List.length_nil, Nat.reduceAdd, Nat.reduceSub, Nat.sub_self, List.replicate, ↓List.cons_append, ↓List.nil_append, List.append_nil, ↓List.getElem?_cons_zero, ↓List.getElem?_cons_succ, ↓List.set_cons_zero, ↓List.set_cons_succ, wipeD, Bool.not_true, Bool.not_false, decide_true, decide_false, beq_self_eq_true, true_and, and_true, Nat.reduceLeDiff, toDs, toDk, toDs_sh, ↓zS_ii, ↓zS_bi, ↓zS_bb, ↓zS_tt, ↓zS_ll, ↓zS_lt, ↓zS_lk, ↓zS_cut3, ↓zS_r3, ↓zS_r3D, ↓zS_nonI, ↓zS_nonN, ↓zS_ownO, ↓zS_ms, ↓zS_sm, ↓zS_mm]
    exact g1
  · rw [decide_eq_false c]
    exact g0
end
section
variable {u w : List Pc} {W : DEnds} {o2 o3 o4 o5 o6 o7 o8 o9 o10 o11 o12 : Option SD}
theorem law_l (hN : ∀ o2 o3 o4 o5 o6 o7 o8, W.nx (SL o2 o3 o4 o5 o6 o7 o8 o9 o10 o11 o12)) : ∀ (n : Nat) (j : Int) (o2 o3 o4 o5 o6 o7 o8 : Option SD), forD (gN 2) b_law_1 W (ups j n) (SL o2 o3 o4 o5 o6 o7 o8 o9 o10 o11 o12)
  | 0, j, o2, o3, o4, o5, o6, o7, o8 => hN _ _ _ _ _ _ _
  | n + 1, j, o2, o3, o4, o5, o6, o7, o8 => by
    rw [ups_succ, forD_c]
    show b_law_1 _ (SL (some (.sh (.int j))) o3 o4 o5 o6 o7 o8 o9 o10 o11 o12)
    exact law_b fun o3 o4 o5 o6 o7 o8 => law_l hN n (j + 1) _ _ _ _ _ _ _
end
theorem law_18 {W : DEnds} {o2 o3 o4 o5 o6 o7 o8 o9 o10 o11 o12 : Option SD} (hN : W.rt (.bl true)) : law_at_18 W (SL o2 o3 o4 o5 o6 o7 o8 o9 o10 o11 o12) := by
  have k := right_ok (A := []) (Q := W.rt) (fun _ h => by cases h) (by decide) hN
  simp only [law_at_18, ↓zHd0, zHp0, ↓zGd0, ↓zGd1, ↓zGd2, ↓zGd3, ↓zGd4, zGp0, startD, ↓List.map_cons, ↓List.map_nil, ↓List.length_cons, ↓List.length_nil, Nat.reduceAdd, Nat.reduceSub, Nat.sub_self, List.replicate, ↓List.cons_append, ↓List.nil_append, List.append_nil, ↓List.getElem?_cons_zero, ↓List.getElem?_cons_succ, ↓List.set_cons_zero, ↓List.set_cons_succ, wipeD, Bool.not_true, Bool.not_false, decide_true, decide_false, beq_self_eq_true, true_and, and_true, Nat.reduceLeDiff, toDs, toDk, toDs_sh, ↓zS_ii, ↓zS_bi, ↓zS_bb, ↓zS_tt, ↓zS_ll, ↓zS_lt, ↓zS_lk, ↓zS_cut3, ↓zS_r3, ↓zS_r3D, ↓zS_nonI, ↓zS_nonN, ↓zS_ownO, ↓zS_ms, ↓zS_sm, ↓zS_mm]
  exact make0_ok (Q := fun d => S__law_right [d, .lst []] W.rt) k
theorem vc_law : t_law { nx := fun _ => False, rt := fun d => d = .bl true } [none, some (.sh .bag), none, none, none, none, none, none, none, none, none, none, none] := by
  simp only [t_law, ↓zHd0, zHp0, ↓zGd0, ↓zGd1, ↓zGd2, ↓zGd3, ↓zGd4, zGp0, startD, ↓List.map_cons, ↓List.map_nil, ↓List.length_cons, ↓List.length_nil, Nat.reduceAdd, Nat.reduceSub, Nat.sub_self, List.replicate, ↓List.cons_append, ↓List.nil_append, List.append_nil, ↓List.getElem?_cons_zero, ↓List.getElem?_cons_succ, ↓List.set_cons_zero, ↓List.set_cons_succ, wipeD, Bool.not_true, Bool.not_false, decide_true, decide_false, beq_self_eq_true, true_and, and_true, Nat.reduceLeDiff, toDs, toDk, toDs_sh, ↓zS_ii, ↓zS_bi, ↓zS_bb, ↓zS_tt, ↓zS_ll, ↓zS_lt, ↓zS_lk, ↓zS_cut3, ↓zS_r3, ↓zS_r3D, ↓zS_nonI, ↓zS_nonN, ↓zS_ownO, ↓zS_ms, ↓zS_sm, ↓zS_mm]
  refine ⟨by decide, ?_⟩
  exact law_l (fun _ _ _ _ _ _ _ => law_18 rfl) 5 0 none none none none none none none
def spLaw (K : PySem.W.Frag) : Sp := fun vs H P _ => ∃ (a : Addr) (ns : List Int), vs = [.ref a] ∧ SqL K H a (ns.map V.int) ∧ ns.length ≤ 63 ∧ ∀ H', P (.bl true) H'
theorem pss_ex {α : Type} {X : Cx} {sts : List Stmt} {f : α → TS} (h : ∀ b, PSs X sts (f b)) : PSs X sts (fun D σ H => ∃ b, f b D σ H) := ⟨fun pins s σ H D I ⟨b, q⟩ => (h b).run pins s σ H D I q⟩
theorem d_law {P : Program} {w : World} {K : PySem.W.Frag} {mg : Str → Option Value} {base : Heap} {B : Bx} (T : Top K mg B.ct) {cdv : Value} {A : Around} {outer : List Env} {s : Shared} {H : Hp} {E : XK} (hgd : A.guards = some []) (hr : Room 6 (A.deeper (envOfC "law" (defScope s_law) s.heap.objs.size T.f_law.f cdv))) :
    PSsD (cxOf CX0 P w K mg base ["_law_script", "_law_bag_here", "_law_turn", "_law_pieces", "_law_far", "_law_due", "_law_couple_here", "_law_handed_here", "_law_heap", "_law_i", "_law_j", "_law_above", "_law_on"] "law" (defScope s_law) T.f_law.f cdv A outer s H E).nox B ((defBody s_law).drop 1) t_law := by
  have hgd : (cxOf CX0 P w K mg base ["_law_script", "_law_bag_here", "_law_turn", "_law_pieces", "_law_far", "_law_due", "_law_couple_here", "_law_handed_here", "_law_heap", "_law_i", "_law_j", "_law_above", "_law_on"] "law" (defScope s_law) T.f_law.f cdv A outer s H E).nox.A.guards = some [] := hgd
  have hu70 : (cxOf CX0 P w K mg base ["_law_script", "_law_bag_here", "_law_turn", "_law_pieces", "_law_far", "_law_due", "_law_couple_here", "_law_handed_here", "_law_heap", "_law_i", "_law_j", "_law_above", "_law_on"] "law" (defScope s_law) T.f_law.f cdv A outer s H E).nox.A.units + 70 < cLine := Nat.lt_of_le_of_lt (Nat.add_le_add_left (by decide : 70 ≤ 16 * 6 + 200) _) hr.un
  refine psd_cons ?_ ?_
  · refine psd_for PassesOwn.never rfl (pid_r1 (by rfl) T.n_range (pad_cons pd_int pad_nil)) (pgd_name (i := 2) sc_law.nd rfl (by first | exact .inl rfl | exact .inr rfl)) ?_
    refine psd_cons ?_ ?_
    · refine (psd_set (i := 3) sc_law.nd rfl (by first | exact .inl rfl | exact .inr rfl) (pd_callD T.f__law_drawn_pieces (ok__law_drawn_pieces T) hr (by decide) (by rfl) (pad_cons (pd_var 1) (pad_cons pd_int pad_nil))))
    refine psd_cons ?_ ?_
    · refine (psd_set (i := 4) sc_law.nd rfl (by first | exact .inl rfl | exact .inr rfl) (pd_ix ix_d (pd_f (pf_lst (pad_cons pd_int (pad_cons (pd_bin op_pow_d pd_int pd_int) pad_nil)))) (pd_callTy call_int_d (by rfl) T.n_int (by decide +kernel) (pad_cons (pd_cmp (op_eq_d hr.units) (pd_callD T.f__law_take (ok__law_take T) hr (by decide) (by rfl) (pad_cons (pd_var 1) (pad_cons pd_int pad_nil))) pd_int (by rfl)) pad_nil))))
    refine psd_cons ?_ ?_
    · refine (psd_setLc (i := 3) rfl sc_law.nd rfl rfl (sw_true rfl rfl rfl (by decide +kernel)) (pid_seq (pd_var 3)) (blkOk_by (own := [("_law_i", 9), ("_law_j", 10), ("_law_above", 11), ("_law_on", 12)]) (by rfl)) (by decide) (fun _ _ _ _ _ => (pgd_tup rfl (pgsd_cons (pgd_name (i := 9) sc_law.nd rfl (by first | exact .inl rfl | exact .inr rfl)) (pgsd_cons (pgd_name (i := 10) sc_law.nd rfl (by first | exact .inl rfl | exact .inr rfl)) (pgsd_cons (pgd_name (i := 11) sc_law.nd rfl (by first | exact .inl rfl | exact .inr rfl)) (pgsd_cons (pgd_name (i := 12) sc_law.nd rfl (by first | exact .inl rfl | exact .inr rfl)) pgsd_nil)))))) (fun _ _ _ _ _ => ptsd_nil) (fun _ _ _ _ _ => ?h2))
      case h2 => exact (pd_tup (pad_cons (pd_bin op_add_d (pd_var 9) (pd_var 4)) (pad_cons (pd_var 10) (pad_cons (pd_var 11) (pad_cons (pd_var 12) pad_nil)))))
    refine psd_cons ?_ ?_
    · refine (psd_set (i := 5) sc_law.nd rfl (by first | exact .inl rfl | exact .inr rfl) (pd_callD T.f__law_heaped (ok__law_heaped T) hr (by decide) (by rfl) (pad_cons (pd_var 3) pad_nil)))
    refine psd_cons ?_ ?_
    · refine psd_if (ptd_cmp (op_eq_d hr.units) (pd_callD T.f__law_take (ok__law_take T) hr (by decide) (by rfl) (pad_cons (pd_var 1) (pad_cons pd_int pad_nil))) pd_int (by rfl)) ?_ ?_
      · refine psd_cons ?_ ?_
        · refine (psd_set (i := 6) sc_law.nd rfl (by first | exact .inl rfl | exact .inr rfl) (pd_callD T.f__law_piece (ok__law_piece T) hr (by decide) (by rfl) (pad_cons (pd_var 1) (pad_cons pd_int (pad_cons pd_int pad_nil)))))
        refine psd_one ?_
        refine (psd_set (i := 3) sc_law.nd rfl (by first | exact .inl rfl | exact .inr rfl) (pd_bin op_add_d (pd_bin op_mul_d (pd_f (pf_lst (pad_cons (pd_var 6) (pad_cons (pd_callD T.f__law_contrary (ok__law_contrary T) hr (by decide) (by rfl) (pad_cons (pd_var 6) pad_nil)) pad_nil)))) (pd_callD T.f__law_take (ok__law_take T) hr (by decide) (by rfl) (pad_cons (pd_var 1) (pad_cons pd_int pad_nil)))) (pd_var 3)))
      · exact psd_nil
    refine psd_cons ?_ ?_
    · refine (psd_setT (i := 7) sc_law.nd rfl (by first | exact .inl rfl | exact .inr rfl) (po_callD T.f__law_handed (ok__law_handed T) hr (by decide) (by rfl) (pad_cons (pd_var 1) (pad_cons (pd_var 3) pad_nil))))
    refine psds_norm 7 ?_
    refine psd_cons ?_ ?_
    · refine (psd_ifOw (psd_setMk (i := 8) T.mk_Heap (fn_r (oko_Heap___init__ T) T.i_Heap___init__.bd) (hr.mono (by decide)) (by rfl) T.g_Heap sc_law.nd rfl (by first | exact .inl rfl | exact .inr rfl) (pv 7)) (psd_set (i := 8) sc_law.nd rfl (by first | exact .inl rfl | exact .inr rfl) (pd_make T.mk_Heap (r_Heap___init__ T) (hr.mono (by decide)) (by rfl) T.g_Heap (pad_cons (pd_var 7) pad_nil))))
    refine psd_cons ?_ ?_
    · refine psd_if (ptd_ifOw (ptd_bor 7 (ptd_cmp (op_ne_d hr.units) (pd_f (pf_list (by rfl) T.n_list (pad_cons (pd_var 7) pad_nil))) (pd_var 3) (by rfl))) (ptd_cmp (op_ne_d hr.units) (pd_f (pf_list (by rfl) T.n_list (pad_cons (pd_var 7) pad_nil))) (pd_var 3) (by rfl))) ?_ ?_
      · refine psd_one ?_
        refine (psd_ret pd_bl)
      · exact psd_nil
    refine psd_cons ?_ ?_
    · refine psd_if (ptd_ifOw (ptd_bor 7 (ptd_val (pd_isiA known_list (by decide) T.ob_all (by rfl) T.n_isinstance (by rfl) T.n_list (by decide +kernel) (pd_var 7)))) (ptd_val (pd_isiA known_list (by decide) T.ob_all (by rfl) T.n_isinstance (by rfl) T.n_list (by decide +kernel) (pd_var 7)))) ?_ ?_
      · refine psd_one ?_
        refine (psd_appR (pr_var (pv 7)) (pd_tup (pad_cons pd_int (pad_cons pd_int (pad_cons pd_bl (pad_cons pd_bl pad_nil))))))
      · exact psd_nil
    refine psd_one ?_
    refine psd_if (ptd_not (ptd_val (pd_callDG T.f__law_right (ok__law_right T) hgd hr (by decide) (by rfl) (pad_cons (pd_var 8) (pad_cons (pd_var 5) pad_nil))))) ?_ ?_
    · refine psd_one ?_
      refine (psd_ret pd_bl)
    · exact psd_nil
  refine psd_one ?_
  refine (psd_ret (pd_callDG T.f__law_right (ok__law_right T) hgd hr (by decide) (by rfl) (pad_cons (pd_make0 T.mk_Heap (r0_Heap___init__ T) (hr.mono (by decide)) (by rfl) T.g_Heap) (pad_cons (pd_f (pf_lst pad_nil)) pad_nil))))
theorem ok_law {P : Program} {w : World} {K : PySem.W.Frag} {mg : Str → Option Value} {base : Heap} {ct : Nat → Addr} (T : Top K mg ct) : FnG P w K mg base CX0 7 T.f_law.f T.f_law.fd ["_law_script"] (spLaw K) := by
  refine fng_of (k := 6) T.f_law.fn sc_law (fun vs H Q E h => ?_) (fun cdv A outer s H vs Q E hgd hr h => ?_)
  · obtain ⟨a, ns, rfl, _⟩ := h
    rfl
  obtain ⟨a, ns, rfl, hS, hl, q⟩ := h
  have rest : ∀ b : Addr × Addr, PSsD (cxOf CX0 P w K mg base ["_law_script", "_law_bag_here", "_law_turn", "_law_pieces", "_law_far", "_law_due", "_law_couple_here", "_law_handed_here", "_law_heap", "_law_i", "_law_j", "_law_above", "_law_on"] "law" (defScope s_law) T.f_law.f cdv A outer s H E).nox ⟨b.1, b.2, ct, [], none⟩ ((defBody s_law).drop 1) t_law := fun b => d_law (B := ⟨b.1, b.2, ct, [], none⟩) T hgd hr
  refine ⟨_, PSs.nox (pss_cons (ps_set (i := 1) sc_law.nd rfl (by first | exact .inl rfl | exact .inr rfl) (pe_call (ok__law_bag T) (hr.mono (by decide)) (by rfl) T.f__law_bag.at_ T.f__law_bag.fn.kp T.f__law_bag.bd .nil pass0 (pa_cons (pv 0) pa_nil))) (pss_ex rest)), ?_⟩
  refine ⟨.ref a, rfl, a, ns, rfl, hS, hl, fun b L H2 hb hL ne ex h1 h2 => ?_⟩
  let G : Hp := upd (fun _ => none) L (.lst ((ns.map absI).map V.int))
  have exG : Ex G H2 := fun x o hx => by
    by_cases e : x = L
    · subst e
      have hx : upd (fun _ => none) x (.lst ((ns.map absI).map V.int)) x = some o := hx
      rw [upd_same] at hx
      cases hx
      exact h2
    · have hx : upd (fun _ => none) L (.lst ((ns.map absI).map V.int)) x = some o := hx
      rw [upd_ne e] at hx
      cases hx
  have gb : G b = none := by
    show upd (fun _ => none) L _ b = none
    rw [upd_ne (Ne.symm ne)]
  have jn : Jn K ⟨b, L, ct, [], none⟩ G H2 := by
    refine ⟨exG, gb, ⟨0, 1234567891, 0, ns.map absI, h1, sq_of upd_same, by decide, by decide, by decide, by decide, fun n hn => ?_, by rw [List.length_map]; exact hl⟩, { tb := fun _ z => (nomatch z), ex := fun _ z => (nomatch z), keep := fun _ z => (nomatch z), old := fun _ z => (nomatch z) }⟩
    obtain ⟨m, _, rfl⟩ := List.mem_map.mp hn
    unfold absI
    split <;> omega
  refine ⟨(b, L), G, H2, G, [none, some (.sh .bag), none, none, none, none, none, none, none, none, none, none, none], { nx := fun _ => False, rt := fun d => d = .bl true }, Gr.refl jn, ?_, vc_law, ⟨fun _ _ _ _ z => z.elim, fun _ _ _ _ z => z.elim, fun _ _ _ _ z => z.elim, fun d v G3 H3 z _ _ hd => ?_, fun _ _ _ _ _ z => z.elim⟩⟩
  · have s0 := start_ok (K := K) (B := ⟨b, L, ct, [], none⟩) (H0 := H2) (G := G) (H := H2) (N := ["_law_script", "_law_bag_here", "_law_turn", "_law_pieces", "_law_far", "_law_due", "_law_couple_here", "_law_handed_here", "_law_heap", "_law_i", "_law_j", "_law_above", "_law_on"]) (vs := []) (ds := []) .nil
    exact (s0.forget (i := 0) (o := some (.ref a))).set (i := 1) (v := .ref b) (d := .bag) .bag
  · have z : d = .bl true := z
    subst z
    cases hd
    exact q _
theorem mkc_Heap {K : PySem.W.Frag} {C : Addr} (aC : PySem.W.nsIn K mainGlobals "Heap" = some (some (.ref C))) (c : SlX.SCls K C) (s_Heap_kept_pieces : SlotAt K C "kept_pieces" 0) (ob : ObjC K C) (i_Heap___init__ : (∃ t : InAtD K "__init__" "Heap.__init__" s_Heap___init__ ["self", "pieces"], Mk K C t.f)) (i_Heap___contains__ : (∃ t : InAt K "__contains__" "Heap.__contains__" s_Heap___contains__ ["self", "thing"], Meth K C "__contains__" t.f)) (i_Heap___iter__ : (∃ t : InAt K "__iter__" "Heap.__iter__" s_Heap___iter__ ["self"], Meth K C "__iter__" t.f)) (i_Heap___len__ : (∃ t : InAt K "__len__" "Heap.__len__" s_Heap___len__ ["self"], Meth K C "__len__" t.f)) (i_Heap_firsts : (∃ t : InAt K "firsts" "Heap.firsts" s_Heap_firsts ["self"], Meth K C "firsts" t.f)) (i_Heap_lasts : (∃ t : InAt K "lasts" "Heap.lasts" s_Heap_lasts ["self"], Meth K C "lasts" t.f)) (i_Heap_levels : (∃ t : InAt K "levels" "Heap.levels" s_Heap_levels ["self"], Meth K C "levels" t.f)) (i_Heap_pieces_of : (∃ t : InAt K "pieces_of" "Heap.pieces_of" s_Heap_pieces_of ["self", "ribbon"], Meth K C "pieces_of" t.f)) : ∃ C : Addr, PySem.W.nsIn K mainGlobals "Heap" = some (some (.ref C)) ∧ SlX.SCls K C ∧ SlotAt K C "kept_pieces" 0 ∧ ObjC K C ∧ (∃ t : InAtD K "__init__" "Heap.__init__" s_Heap___init__ ["self", "pieces"], Mk K C t.f) ∧ (∃ t : InAt K "__contains__" "Heap.__contains__" s_Heap___contains__ ["self", "thing"], Meth K C "__contains__" t.f) ∧ (∃ t : InAt K "__iter__" "Heap.__iter__" s_Heap___iter__ ["self"], Meth K C "__iter__" t.f) ∧ (∃ t : InAt K "__len__" "Heap.__len__" s_Heap___len__ ["self"], Meth K C "__len__" t.f) ∧ (∃ t : InAt K "firsts" "Heap.firsts" s_Heap_firsts ["self"], Meth K C "firsts" t.f) ∧ (∃ t : InAt K "lasts" "Heap.lasts" s_Heap_lasts ["self"], Meth K C "lasts" t.f) ∧ (∃ t : InAt K "levels" "Heap.levels" s_Heap_levels ["self"], Meth K C "levels" t.f) ∧ (∃ t : InAt K "pieces_of" "Heap.pieces_of" s_Heap_pieces_of ["self", "ribbon"], Meth K C "pieces_of" t.f) := ⟨C, aC, c, s_Heap_kept_pieces, ob, i_Heap___init__, i_Heap___contains__, i_Heap___iter__, i_Heap___len__, i_Heap_firsts, i_Heap_lasts, i_Heap_levels, i_Heap_pieces_of⟩
theorem fin {l : PySem.W.OpenLaw} {w : World} {K : PySem.W.Frag} {h : Heap} {mg : Str → Option Value} {fa : Addr} (X : K.In h) (G : h.Ns mainGlobals mg) (hfa : mg "law" = some (.ref fa))
    (d_is_integer : Nonempty (DefAt K mg "is_integer" s_is_integer ["thing"]))
    (d_is_count : Nonempty (DefAt K mg "is_count" s_is_count ["thing"]))
    (d_is_piece : Nonempty (DefAt K mg "is_piece" s_is_piece ["thing"]))
    (d_are_pieces : Nonempty (DefAt K mg "are_pieces" s_are_pieces ["thing"]))
    (d_touch : Nonempty (DefAt K mg "touch" s_touch ["one", "other"]))
    (d_with_levels : Nonempty (DefAt K mg "with_levels" s_with_levels ["pieces"]))
    (d_place_of_undone : Nonempty (DefAt K mg "place_of_undone" s_place_of_undone ["kept", "piece"]))
    (d_without_undone : Nonempty (DefAt K mg "without_undone" s_without_undone ["pieces"]))
    (d_in_order : Nonempty (DefAt K mg "in_order" s_in_order ["pieces"]))
    (d_is_side : Nonempty (DefAt K mg "is_side" s_is_side ["thing"]))
    (d__law_bag : Nonempty (DefAt K mg "_law_bag" s__law_bag ["_law_script"]))
    (d__law_contrary : Nonempty (DefAt K mg "_law_contrary" s__law_contrary ["_law_piece_here"]))
    (d__law_take : Nonempty (DefAt K mg "_law_take" s__law_take ["_law_bag_here", "_law_many"]))
    (d__law_pick : Nonempty (DefAt K mg "_law_pick" s__law_pick ["_law_bag_here", "_law_things"]))
    (d__law_piece : Nonempty (DefAt K mg "_law_piece" s__law_piece ["_law_bag_here", "_law_n", "_law_m"]))
    (d__law_drawn_pieces : Nonempty (DefAt K mg "_law_drawn_pieces" s__law_drawn_pieces ["_law_bag_here", "_law_many"]))
    (d__law_handed : Nonempty (DefAt K mg "_law_handed" s__law_handed ["_law_bag_here", "_law_some"]))
    (d__law_touch : Nonempty (DefAt K mg "_law_touch" s__law_touch ["_law_one", "_law_other"]))
    (d__law_couple : Nonempty (DefAt K mg "_law_couple" s__law_couple ["_law_pieces"]))
    (d__law_left_over : Nonempty (DefAt K mg "_law_left_over" s__law_left_over ["_law_pieces"]))
    (d__law_leveled : Nonempty (DefAt K mg "_law_leveled" s__law_leveled ["_law_pieces"]))
    (d__law_heaped : Nonempty (DefAt K mg "_law_heaped" s__law_heaped ["_law_pieces"]))
    (d__law_alike : Nonempty (DefAt K mg "_law_alike" s__law_alike ["_law_found", "_law_due"]))
    (d__law_ribbons_right : Nonempty (DefAt K mg "_law_ribbons_right" s__law_ribbons_right ["_law_heap", "_law_due"]))
    (d__law_right : Nonempty (DefAt K mg "_law_right" s__law_right ["_law_heap", "_law_due"]))
    (d_law : ∃ t : DefAt K mg "law" s_law ["_law_script"], ∀ (s : Shared) (v : Value), BindsTo s t.fd ⟨[v], []⟩ [("_law_script", v)])
    (c_Heap : ∃ C : Addr, PySem.W.nsIn K mainGlobals "Heap" = some (some (.ref C)) ∧ SlX.SCls K C ∧ SlotAt K C "kept_pieces" 0 ∧ ObjC K C ∧ (∃ t : InAtD K "__init__" "Heap.__init__" s_Heap___init__ ["self", "pieces"], Mk K C t.f) ∧ (∃ t : InAt K "__contains__" "Heap.__contains__" s_Heap___contains__ ["self", "thing"], Meth K C "__contains__" t.f) ∧ (∃ t : InAt K "__iter__" "Heap.__iter__" s_Heap___iter__ ["self"], Meth K C "__iter__" t.f) ∧ (∃ t : InAt K "__len__" "Heap.__len__" s_Heap___len__ ["self"], Meth K C "__len__" t.f) ∧ (∃ t : InAt K "firsts" "Heap.firsts" s_Heap_firsts ["self"], Meth K C "firsts" t.f) ∧ (∃ t : InAt K "lasts" "Heap.lasts" s_Heap_lasts ["self"], Meth K C "lasts" t.f) ∧ (∃ t : InAt K "levels" "Heap.levels" s_Heap_levels ["self"], Meth K C "levels" t.f) ∧ (∃ t : InAt K "pieces_of" "Heap.pieces_of" s_Heap_pieces_of ["self", "ribbon"], Meth K C "pieces_of" t.f))
    (n_abs : PySem.W.nsIn K mainGlobals "abs" = some none)
    (n_all : PySem.W.nsIn K mainGlobals "all" = some none)
    (n_bool : PySem.W.nsIn K mainGlobals "bool" = some none)
    (n_int : PySem.W.nsIn K mainGlobals "int" = some none)
    (n_isinstance : PySem.W.nsIn K mainGlobals "isinstance" = some none)
    (n_iter : PySem.W.nsIn K mainGlobals "iter" = some none)
    (n_len : PySem.W.nsIn K mainGlobals "len" = some none)
    (n_list : PySem.W.nsIn K mainGlobals "list" = some none)
    (n_max : PySem.W.nsIn K mainGlobals "max" = some none)
    (n_range : PySem.W.nsIn K mainGlobals "range" = some none)
    (n_repr : PySem.W.nsIn K mainGlobals "repr" = some none)
    (n_set : PySem.W.nsIn K mainGlobals "set" = some none)
    (n_sorted : PySem.W.nsIn K mainGlobals "sorted" = some none)
    (n_str : PySem.W.nsIn K mainGlobals "str" = some none)
    (n_sum : PySem.W.nsIn K mainGlobals "sum" = some none)
    (n_tuple : PySem.W.nsIn K mainGlobals "tuple" = some none)
    (k_SIDES : ∃ p : Addr, mg "SIDES" = some (.ref p) ∧ ∀ B G, Dat K B G (.ref p) c_SIDES)
    : ∃ fd : FuncData, (∀ (s : Shared) (v : Value), BindsTo s fd ⟨[v], []⟩ [("_law_script", v)]) ∧ ∀ base : Heap, K.In base → base.Ns mainGlobals mg → FnG l.prog w K mg base CX0 7 fa fd ["_law_script"] (spLaw K) := by
  obtain ⟨t_is_integer⟩ := d_is_integer
  obtain ⟨t_is_count⟩ := d_is_count
  obtain ⟨t_is_piece⟩ := d_is_piece
  obtain ⟨t_are_pieces⟩ := d_are_pieces
  obtain ⟨t_touch⟩ := d_touch
  obtain ⟨t_with_levels⟩ := d_with_levels
  obtain ⟨t_place_of_undone⟩ := d_place_of_undone
  obtain ⟨t_without_undone⟩ := d_without_undone
  obtain ⟨t_in_order⟩ := d_in_order
  obtain ⟨t_is_side⟩ := d_is_side
  obtain ⟨t__law_bag⟩ := d__law_bag
  obtain ⟨t__law_contrary⟩ := d__law_contrary
  obtain ⟨t__law_take⟩ := d__law_take
  obtain ⟨t__law_pick⟩ := d__law_pick
  obtain ⟨t__law_piece⟩ := d__law_piece
  obtain ⟨t__law_drawn_pieces⟩ := d__law_drawn_pieces
  obtain ⟨t__law_handed⟩ := d__law_handed
  obtain ⟨t__law_touch⟩ := d__law_touch
  obtain ⟨t__law_couple⟩ := d__law_couple
  obtain ⟨t__law_left_over⟩ := d__law_left_over
  obtain ⟨t__law_leveled⟩ := d__law_leveled
  obtain ⟨t__law_heaped⟩ := d__law_heaped
  obtain ⟨t__law_alike⟩ := d__law_alike
  obtain ⟨t__law_ribbons_right⟩ := d__law_ribbons_right
  obtain ⟨t__law_right⟩ := d__law_right
  obtain ⟨t_law, hb⟩ := d_law
  obtain ⟨C_Heap, vg_Heap, vc_Heap, vs_Heap_kept_pieces, vob_Heap, ⟨vi_Heap___init__, vmk_Heap⟩, ⟨vi_Heap___contains__, vm_Heap___contains__⟩, ⟨vi_Heap___iter__, vm_Heap___iter__⟩, ⟨vi_Heap___len__, vm_Heap___len__⟩, ⟨vi_Heap_firsts, vm_Heap_firsts⟩, ⟨vi_Heap_lasts, vm_Heap_lasts⟩, ⟨vi_Heap_levels, vm_Heap_levels⟩, ⟨vi_Heap_pieces_of, vm_Heap_pieces_of⟩⟩ := c_Heap
  obtain ⟨va_SIDES, vg_SIDES, vd_SIDES⟩ := k_SIDES
  have e := hfa.symm.trans t_law.at_
  have e : fa = t_law.f := by injection e with e; injection e
  subst e
  exact ⟨t_law.fd, hb, fun base _ _ => ok_law (ct := fun n => match n with | 5 => C_Heap | _ => 0) { f_is_integer := t_is_integer, f_is_count := t_is_count, f_is_piece := t_is_piece, f_are_pieces := t_are_pieces, f_touch := t_touch, f_with_levels := t_with_levels, f_place_of_undone := t_place_of_undone, f_without_undone := t_without_undone, f_in_order := t_in_order, i_Heap___init__ := vi_Heap___init__, i_Heap___contains__ := vi_Heap___contains__, i_Heap___iter__ := vi_Heap___iter__, i_Heap___len__ := vi_Heap___len__, i_Heap_firsts := vi_Heap_firsts, i_Heap_lasts := vi_Heap_lasts, i_Heap_levels := vi_Heap_levels, f_is_side := t_is_side, i_Heap_pieces_of := vi_Heap_pieces_of, f__law_bag := t__law_bag, f__law_contrary := t__law_contrary, f__law_take := t__law_take, f__law_pick := t__law_pick, f__law_piece := t__law_piece, f__law_drawn_pieces := t__law_drawn_pieces, f__law_handed := t__law_handed, f__law_touch := t__law_touch, f__law_couple := t__law_couple, f__law_left_over := t__law_left_over, f__law_leveled := t__law_leveled, f__law_heaped := t__law_heaped, f__law_alike := t__law_alike, f__law_ribbons_right := t__law_ribbons_right, f__law_right := t__law_right, f_law := t_law, c_Heap := vc_Heap, g_Heap := (PySem.W.mg_of X G vg_Heap), s_Heap_kept_pieces := vs_Heap_kept_pieces, ob_Heap := vob_Heap, mk_Heap := vmk_Heap, m_Heap___contains__ := vm_Heap___contains__, m_Heap___iter__ := vm_Heap___iter__, m_Heap___len__ := vm_Heap___len__, m_Heap_firsts := vm_Heap_firsts, m_Heap_lasts := vm_Heap_lasts, m_Heap_levels := vm_Heap_levels, m_Heap_pieces_of := vm_Heap_pieces_of, ob_all := (fun c1 h => by simp only [List.mem_cons, List.not_mem_nil, or_false] at h; rcases h with rfl <;> first | exact vob_Heap), n_abs := (PySem.W.mg_none_of X G n_abs), n_all := (PySem.W.mg_none_of X G n_all), n_bool := (PySem.W.mg_none_of X G n_bool), n_int := (PySem.W.mg_none_of X G n_int), n_isinstance := (PySem.W.mg_none_of X G n_isinstance), n_iter := (PySem.W.mg_none_of X G n_iter), n_len := (PySem.W.mg_none_of X G n_len), n_list := (PySem.W.mg_none_of X G n_list), n_max := (PySem.W.mg_none_of X G n_max), n_range := (PySem.W.mg_none_of X G n_range), n_repr := (PySem.W.mg_none_of X G n_repr), n_set := (PySem.W.mg_none_of X G n_set), n_sorted := (PySem.W.mg_none_of X G n_sorted), n_str := (PySem.W.mg_none_of X G n_str), n_sum := (PySem.W.mg_none_of X G n_sum), n_tuple := (PySem.W.mg_none_of X G n_tuple), a_SIDES := va_SIDES, g_SIDES := vg_SIDES, d_SIDES := vd_SIDES }⟩
end My
open PySem PySem.W PyProof.Rows in
set_option maxRecDepth 100000 in
set_option maxHeartbeats 0 in
theorem PySem.Challenge.cw_poleribbons_k60_heaps_told_holds : PySem.Challenge.rw_poleribbons_k60_heaps_told.Holds := by
  refine My.early.h (My.Wrap.mk ?_)
  unfold My.early
  dsimp only
  k_fill
  refine DL.walk_g (l := PySem.Challenge.rw_poleribbons_k60_heaps_told) (n := 63) (k := 7) (x := "_law_script") (sp := fun w => My.spLaw _) rfl (by decide) rfl ⟨rfl, by decide, by decide⟩ (fun w h Y => PySem.W.kIn_of Y) ?F (fun _ _ a ns hl _ hS => ⟨a, ns, rfl, hS, hl, fun _ => rfl⟩)
  case F =>
    as_aux_lemma =>
      intro w mg fa h KX G hmg
      replace hmg : mg "law" = some (.ref fa) := hmg
      refine' My.fin KX G hmg ?d_is_integer ?d_is_count ?d_is_piece ?d_are_pieces ?d_touch ?d_with_levels ?d_place_of_undone ?d_without_undone ?d_in_order ?d_is_side ?d__law_bag ?d__law_contrary ?d__law_take ?d__law_pick ?d__law_piece ?d__law_drawn_pieces ?d__law_handed ?d__law_touch ?d__law_couple ?d__law_left_over ?d__law_leveled ?d__law_heaped ?d__law_alike ?d__law_ribbons_right ?d__law_right ?d_law ?c_Heap ?n_abs ?n_all ?n_bool ?n_int ?n_isinstance ?n_iter ?n_len ?n_list ?n_max ?n_range ?n_repr ?n_set ?n_sorted ?n_str ?n_sum ?n_tuple ?k_SIDES
      case d_is_integer =>
        refine' DL.ex_def KX G (fun _ _ _ _ _ _ us hl => match us, hl with | [_], _ => rfl) ?a ?l ?c ?k
        (case a => k_is); (case l => k_is); (case c => k_is); (case k => k_is)
      case d_is_count =>
        refine' DL.ex_def KX G (fun _ _ _ _ _ _ us hl => match us, hl with | [_], _ => rfl) ?a ?l ?c ?k
        (case a => k_is); (case l => k_is); (case c => k_is); (case k => k_is)
      case d_is_piece =>
        refine' DL.ex_def KX G (fun _ _ _ _ _ _ us hl => match us, hl with | [_], _ => rfl) ?a ?l ?c ?k
        (case a => k_is); (case l => k_is); (case c => k_is); (case k => k_is)
      case d_are_pieces =>
        refine' DL.ex_def KX G (fun _ _ _ _ _ _ us hl => match us, hl with | [_], _ => rfl) ?a ?l ?c ?k
        (case a => k_is); (case l => k_is); (case c => k_is); (case k => k_is)
      case d_touch =>
        refine' DL.ex_def KX G (fun _ _ _ _ _ _ us hl => match us, hl with | [_, _], _ => rfl) ?a ?l ?c ?k
        (case a => k_is); (case l => k_is); (case c => k_is); (case k => k_is)
      case d_with_levels =>
        refine' DL.ex_def KX G (fun _ _ _ _ _ _ us hl => match us, hl with | [_], _ => rfl) ?a ?l ?c ?k
        (case a => k_is); (case l => k_is); (case c => k_is); (case k => k_is)
      case d_place_of_undone =>
        refine' DL.ex_def KX G (fun _ _ _ _ _ _ us hl => match us, hl with | [_, _], _ => rfl) ?a ?l ?c ?k
        (case a => k_is); (case l => k_is); (case c => k_is); (case k => k_is)
      case d_without_undone =>
        refine' DL.ex_def KX G (fun _ _ _ _ _ _ us hl => match us, hl with | [_], _ => rfl) ?a ?l ?c ?k
        (case a => k_is); (case l => k_is); (case c => k_is); (case k => k_is)
      case d_in_order =>
        refine' DL.ex_def KX G (fun _ _ _ _ _ _ us hl => match us, hl with | [_], _ => rfl) ?a ?l ?c ?k
        (case a => k_is); (case l => k_is); (case c => k_is); (case k => k_is)
      case d_is_side =>
        refine' DL.ex_def KX G (fun _ _ _ _ _ _ us hl => match us, hl with | [_], _ => rfl) ?a ?l ?c ?k
        (case a => k_is); (case l => k_is); (case c => k_is); (case k => k_is)
      case d__law_bag =>
        refine' DL.ex_def KX G (fun _ _ _ _ _ _ us hl => match us, hl with | [_], _ => rfl) ?a ?l ?c ?k
        (case a => k_is); (case l => k_is); (case c => k_is); (case k => k_is)
      case d__law_contrary =>
        refine' DL.ex_def KX G (fun _ _ _ _ _ _ us hl => match us, hl with | [_], _ => rfl) ?a ?l ?c ?k
        (case a => k_is); (case l => k_is); (case c => k_is); (case k => k_is)
      case d__law_take =>
        refine' DL.ex_def KX G (fun _ _ _ _ _ _ us hl => match us, hl with | [_, _], _ => rfl) ?a ?l ?c ?k
        (case a => k_is); (case l => k_is); (case c => k_is); (case k => k_is)
      case d__law_pick =>
        refine' DL.ex_def KX G (fun _ _ _ _ _ _ us hl => match us, hl with | [_, _], _ => rfl) ?a ?l ?c ?k
        (case a => k_is); (case l => k_is); (case c => k_is); (case k => k_is)
      case d__law_piece =>
        refine' DL.ex_def KX G (fun _ _ _ _ _ _ us hl => match us, hl with | [_, _, _], _ => rfl) ?a ?l ?c ?k
        (case a => k_is); (case l => k_is); (case c => k_is); (case k => k_is)
      case d__law_drawn_pieces =>
        refine' DL.ex_def KX G (fun _ _ _ _ _ _ us hl => match us, hl with | [_, _], _ => rfl) ?a ?l ?c ?k
        (case a => k_is); (case l => k_is); (case c => k_is); (case k => k_is)
      case d__law_handed =>
        refine' DL.ex_def KX G (fun _ _ _ _ _ _ us hl => match us, hl with | [_, _], _ => rfl) ?a ?l ?c ?k
        (case a => k_is); (case l => k_is); (case c => k_is); (case k => k_is)
      case d__law_touch =>
        refine' DL.ex_def KX G (fun _ _ _ _ _ _ us hl => match us, hl with | [_, _], _ => rfl) ?a ?l ?c ?k
        (case a => k_is); (case l => k_is); (case c => k_is); (case k => k_is)
      case d__law_couple =>
        refine' DL.ex_def KX G (fun _ _ _ _ _ _ us hl => match us, hl with | [_], _ => rfl) ?a ?l ?c ?k
        (case a => k_is); (case l => k_is); (case c => k_is); (case k => k_is)
      case d__law_left_over =>
        refine' DL.ex_def KX G (fun _ _ _ _ _ _ us hl => match us, hl with | [_], _ => rfl) ?a ?l ?c ?k
        (case a => k_is); (case l => k_is); (case c => k_is); (case k => k_is)
      case d__law_leveled =>
        refine' DL.ex_def KX G (fun _ _ _ _ _ _ us hl => match us, hl with | [_], _ => rfl) ?a ?l ?c ?k
        (case a => k_is); (case l => k_is); (case c => k_is); (case k => k_is)
      case d__law_heaped =>
        refine' DL.ex_def KX G (fun _ _ _ _ _ _ us hl => match us, hl with | [_], _ => rfl) ?a ?l ?c ?k
        (case a => k_is); (case l => k_is); (case c => k_is); (case k => k_is)
      case d__law_alike =>
        refine' DL.ex_def KX G (fun _ _ _ _ _ _ us hl => match us, hl with | [_, _], _ => rfl) ?a ?l ?c ?k
        (case a => k_is); (case l => k_is); (case c => k_is); (case k => k_is)
      case d__law_ribbons_right =>
        refine' DL.ex_def KX G (fun _ _ _ _ _ _ us hl => match us, hl with | [_, _], _ => rfl) ?a ?l ?c ?k
        (case a => k_is); (case l => k_is); (case c => k_is); (case k => k_is)
      case d__law_right =>
        refine' DL.ex_def KX G (fun _ _ _ _ _ _ us hl => match us, hl with | [_, _], _ => rfl) ?a ?l ?c ?k
        (case a => k_is); (case l => k_is); (case c => k_is); (case k => k_is)
      case d_law =>
        refine' DL.ex_law KX G (fun _ _ _ _ _ _ us hl => match us, hl with | [_], _ => rfl) ?a ?l ?c ?k
        (case a => k_is); (case l => k_is); (case c => k_is); (case k => k_is)
      case c_Heap =>
        refine' My.mkc_Heap ?aC ?c ?s_Heap_kept_pieces ?ob ?i_Heap___init__ ?i_Heap___contains__ ?i_Heap___iter__ ?i_Heap___len__ ?i_Heap_firsts ?i_Heap_lasts ?i_Heap_levels ?i_Heap_pieces_of
        case aC =>
          k_is
        case c =>
          exact ⟨by k_is, by k_is, by k_is, by k_is⟩
        case s_Heap_kept_pieces =>
          refine' DL.ex_slot ?a ?g ?tk ?ty ?ix ?lt
          (case a => k_is); (case g => k_is); (case tk => k_is); (case ty => k_is); (case ix => k_is); (case lt => decide)
        case ob =>
          exact DL.objB_ok (by kernel_rfl)
        case i_Heap___init__ =>
          refine' DL.ex_initD (n := 0) (m := 1) (fun _ _ _ _ _ _ _ us its hl hi => match us, its, hl, hi with | [_, _], [_], _, _ => ⟨_, rfl, rfl⟩) (fun _ _ _ _ _ _ _ us its hl hi => match us, its, hl, hi with | [_], [_], _, _ => ⟨_, rfl, rfl⟩) rfl ?a ?i ?l ?c ?k ?lT ?dT ?le ?ce ?de ?mk ?kc
          (case a => k_is); (case i => k_is); (case l => k_is); (case c => k_is); (case k => k_is); (case lT => k_is); (case dT => rfl); (case le => k_is); (case ce => rfl); (case de => rfl); (case mk => k_is); (case kc => k_is)
        case i_Heap___contains__ =>
          refine' DL.ex_meth (fun _ _ _ _ _ _ us hl => match us, hl with | [_, _], _ => rfl) ?a ?i ?l ?c ?k
          (case a => k_is); (case i => k_is); (case l => k_is); (case c => k_is); (case k => k_is)
        case i_Heap___iter__ =>
          refine' DL.ex_meth (fun _ _ _ _ _ _ us hl => match us, hl with | [_], _ => rfl) ?a ?i ?l ?c ?k
          (case a => k_is); (case i => k_is); (case l => k_is); (case c => k_is); (case k => k_is)
        case i_Heap___len__ =>
          refine' DL.ex_meth (fun _ _ _ _ _ _ us hl => match us, hl with | [_], _ => rfl) ?a ?i ?l ?c ?k
          (case a => k_is); (case i => k_is); (case l => k_is); (case c => k_is); (case k => k_is)
        case i_Heap_firsts =>
          refine' DL.ex_meth (fun _ _ _ _ _ _ us hl => match us, hl with | [_], _ => rfl) ?a ?i ?l ?c ?k
          (case a => k_is); (case i => k_is); (case l => k_is); (case c => k_is); (case k => k_is)
        case i_Heap_lasts =>
          refine' DL.ex_meth (fun _ _ _ _ _ _ us hl => match us, hl with | [_], _ => rfl) ?a ?i ?l ?c ?k
          (case a => k_is); (case i => k_is); (case l => k_is); (case c => k_is); (case k => k_is)
        case i_Heap_levels =>
          refine' DL.ex_meth (fun _ _ _ _ _ _ us hl => match us, hl with | [_], _ => rfl) ?a ?i ?l ?c ?k
          (case a => k_is); (case i => k_is); (case l => k_is); (case c => k_is); (case k => k_is)
        case i_Heap_pieces_of =>
          refine' DL.ex_meth (fun _ _ _ _ _ _ us hl => match us, hl with | [_, _], _ => rfl) ?a ?i ?l ?c ?k
          (case a => k_is); (case i => k_is); (case l => k_is); (case c => k_is); (case k => k_is)
      case n_abs =>
        k_is
      case n_all =>
        k_is
      case n_bool =>
        k_is
      case n_int =>
        k_is
      case n_isinstance =>
        k_is
      case n_iter =>
        k_is
      case n_len =>
        k_is
      case n_list =>
        k_is
      case n_max =>
        k_is
      case n_range =>
        k_is
      case n_repr =>
        k_is
      case n_set =>
        k_is
      case n_sorted =>
        k_is
      case n_str =>
        k_is
      case n_sum =>
        k_is
      case n_tuple =>
        k_is
      case k_SIDES =>
        refine' DL.ex_tupS KX G ?a ?l ?c ?d ?z ?v
        (case a => k_is); (case l => k_is); (case c => rfl); (case d => rfl); (case z => decide); (case v => rfl)
