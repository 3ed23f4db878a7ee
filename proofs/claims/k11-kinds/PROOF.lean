import PyProof.Rows.All
import Wide.All
import OpenK.AllK
import Wide.FinOn
import HandS.ForMost
import HandS.Exc
import HandS.Evl
import HandS.Slots
import HandS.EndBits
import PyProof.ReprRoads
import PyProof.StrLawsRepr
import HandS.Wide
import HandS.IsInst
import HandS.Style
import HandS.TupAny
import HandS.Star
import HandS.NoneIn
import HandS.SlotsOwn
import PyProof.InstNe
import HandS.Iter
import HandS.SetFor
import HandS.Strs
import HandS.Zip
import HandS.Conv
import KE.GoesMore
import HandS.Deep
import HandS.OwnEq
import HandS.DictComp
import PyProof.DictFindH
import HandS.DictEq
import HandS.DeepEq
import KE.SortData
import HandS.TupLen
import KE.KDictCopyH
import KE.KDictSum
import KE.KDictPairs
import HandS.SetBool
import HandS.TupSets
import HandS.SetKeys
import KE.KDictDisplayH
import KE.KEqDict
import KE.KRevSl
import HandS.Replace
import HandS.ReplaceLit
import HandS.ReplaceDef
import HandS.ReplaceList
import HandS.Text
import PySem.Challenge.RW_poleribbons_k11_kinds_known
set_option Elab.async false
set_option linter.all false
set_option maxRecDepth 100000
set_option maxHeartbeats 8000000
namespace DL
open PySem PySem.Spec PyProof.Rows L2 Evl

/-- the bag's place, the classes' places -/
structure Bx where
  b : Addr
  L : Addr
  ct : Nat → Addr
/-! data without a heap -/
inductive D where
  | non | bl (b : Bool) | int (i : Int) | str (x : Str) | lst (xs : List D) | tup (xs : List D)
  | dic (ks : List (D × D)) | obj (c : Nat) (fs : List D) | bag | ktup (xs : List D)

def embK : Key → D
  | .inl i => .int i
  | .inr x => .str x
def embT (k : List Key) : D := .tup (k.map embK)
mutual
inductive Dat (K : PySem.W.Frag) (B : Bx) (G : Hp) : V → D → Prop
  | non : Dat K B G .non .non
  | bl (b : Bool) : Dat K B G (.bl b) (.bl b)
  | int (i : Int) : Dat K B G (.int i) (.int i)
  | str (x : Str) : Dat K B G (.str x) (.str x)
  | lst {a : Addr} {xs : List V} {ds : List D} : G a = some (.lst xs) → Dats K B G xs ds → Dat K B G (.ref a) (.lst ds)
  | tup {a : Addr} {xs : List V} {ds : List D} : G a = some (.tup xs) → Dats K B G xs ds → Dat K B G (.ref a) (.tup ds)
  | ktup {a : Addr} {xs : List V} {ds : List D} : SqT K G a xs → Dats K B G xs ds → Dat K B G (.ref a) (.ktup ds)
  | dK {a : Addr} {od : Obj} {kvs : List (Key × V)} {ds : List (D × D)} : G a = some (.frz od (.dK kvs)) → DatK K B G kvs ds → Dat K B G (.ref a) (.dic ds)
  | dT {a : Addr} {od : Obj} {kvs : List (List Key × V)} {ds : List (D × D)} : G a = some (.frz od (.dT kvs)) → DatT K B G kvs ds → Dat K B G (.ref a) (.dic ds)
  | bag : Dat K B G (.ref B.b) .bag
  | obj {a dx : Addr} {C : Nat} {vs : List V} {fs : List D} : G a = some (SlX.SlO a (B.ct C) dx (vs.map some)) → G dx = some (.xd []) → Dats K B G vs fs → Dat K B G (.ref a) (.obj C fs)
inductive Dats (K : PySem.W.Frag) (B : Bx) (G : Hp) : List V → List D → Prop
  | nil : Dats K B G [] []
  | cons {v : V} {vs : List V} {d : D} {ds : List D} : Dat K B G v d → Dats K B G vs ds → Dats K B G (v :: vs) (d :: ds)
inductive DatK (K : PySem.W.Frag) (B : Bx) (G : Hp) : List (Key × V) → List (D × D) → Prop
  | nil : DatK K B G [] []
  | consI {i : Int} {v : V} {d : D} {vs : List (Key × V)} {ds : List (D × D)} : Dat K B G v d → DatK K B G vs ds → DatK K B G ((.inl i, v) :: vs) ((.int i, d) :: ds)
  | consS {x : Str} {v : V} {d : D} {vs : List (Key × V)} {ds : List (D × D)} : Dat K B G v d → DatK K B G vs ds → DatK K B G ((.inr x, v) :: vs) ((.str x, d) :: ds)
inductive DatT (K : PySem.W.Frag) (B : Bx) (G : Hp) : List (List Key × V) → List (D × D) → Prop
  | nil : DatT K B G [] []
  | cons {k : List Key} {v : V} {d : D} {vs : List (List Key × V)} {ds : List (D × D)} : Dat K B G v d → DatT K B G vs ds → DatT K B G ((k, v) :: vs) ((embT k, d) :: ds)
end

section
variable {K : PySem.W.Frag} {B : Bx} {G G' : Hp}
mutual
theorem Dat.mono (e : Ex G G') : ∀ {v : V} {d : D}, Dat K B G v d → Dat K B G' v d
  | _, _, .non => .non
  | _, _, .bl b => .bl b
  | _, _, .int i => .int i
  | _, _, .str x => .str x
  | _, _, .lst h t => .lst (e _ _ h) (Dats.mono e t)
  | _, _, .tup h t => .tup (e _ _ h) (Dats.mono e t)
  | _, _, .ktup h t => .ktup (ex_t e h) (Dats.mono e t)
  | _, _, .dK h t => .dK (e _ _ h) (DatK.mono e t)
  | _, _, .dT h t => .dT (e _ _ h) (DatT.mono e t)
  | _, _, .bag => .bag
  | _, _, .obj h h2 t => .obj (e _ _ h) (e _ _ h2) (Dats.mono e t)
theorem Dats.mono (e : Ex G G') : ∀ {v : List V} {d : List D}, Dats K B G v d → Dats K B G' v d
  | _, _, .nil => .nil
  | _, _, .cons h t => .cons (Dat.mono e h) (Dats.mono e t)
theorem DatK.mono (e : Ex G G') : ∀ {v : List (Key × V)} {d : List (D × D)}, DatK K B G v d → DatK K B G' v d
  | _, _, .nil => .nil
  | _, _, .consI h t => .consI (Dat.mono e h) (DatK.mono e t)
  | _, _, .consS h t => .consS (Dat.mono e h) (DatK.mono e t)
theorem DatT.mono (e : Ex G G') : ∀ {v : List (List Key × V)} {d : List (D × D)}, DatT K B G v d → DatT K B G' v d
  | _, _, .nil => .nil
  | _, _, .cons h t => .cons (Dat.mono e h) (DatT.mono e t)
end
theorem Dats.len : ∀ {v : List V} {d : List D}, Dats K B G v d → v.length = d.length
  | _, _, .nil => rfl
  | _, _, .cons _ t => by rw [List.length_cons, List.length_cons, Dats.len t]
theorem Dats.get : ∀ {v : List V} {d : List D} {i : Nat} {x : D}, Dats K B G v d → d[i]? = some x → ∃ u, v[i]? = some u ∧ Dat K B G u x
  | _, _, _, _, .nil, e => by simp at e
  | _, _, 0, _, .cons r _, e => by simp at e; subst e; exact ⟨_, rfl, r⟩
  | _, _, i + 1, x, .cons _ t, e => by
    obtain ⟨u, h1, h2⟩ := Dats.get (i := i) (x := x) t (by simpa using e)
    exact ⟨u, by simpa using h1, h2⟩
theorem Dats.get' : ∀ {v : List V} {d : List D} {i : Nat} {u : V}, Dats K B G v d → v[i]? = some u → ∃ x, d[i]? = some x ∧ Dat K B G u x
  | _, _, _, _, .nil, e => by simp at e
  | _, _, 0, _, .cons r _, e => by simp at e; subst e; exact ⟨_, rfl, r⟩
  | _, _, i + 1, x, .cons _ t, e => by
    obtain ⟨u, h1, h2⟩ := Dats.get' (i := i) (u := x) t (by simpa using e)
    exact ⟨u, by simpa using h1, h2⟩
theorem Dats.append : ∀ {v w : List V} {d e : List D}, Dats K B G v d → Dats K B G w e → Dats K B G (v ++ w) (d ++ e)
  | _, _, _, _, .nil, s => s
  | _, _, _, _, .cons r t, s => .cons r (Dats.append t s)
theorem Dats.drop : ∀ {v : List V} {d : List D} (n : Nat), Dats K B G v d → Dats K B G (v.drop n) (d.drop n)
  | _, _, 0, r => r
  | _, _, _ + 1, .nil => .nil
  | _, _, n + 1, .cons _ t => Dats.drop n t
theorem Dats.take : ∀ {v : List V} {d : List D} (n : Nat), Dats K B G v d → Dats K B G (v.take n) (d.take n)
  | _, _, 0, _ => .nil
  | _, _, _ + 1, .nil => .nil
  | _, _, n + 1, .cons r t => .cons r (Dats.take n t)
theorem Dats.rep {v : List V} {d : List D} (h : Dats K B G v d) : ∀ k : Nat, Dats K B G (List.replicate k v).flatten (List.replicate k d).flatten
  | 0 => .nil
  | k + 1 => by
    rw [List.replicate_succ, List.replicate_succ, List.flatten_cons, List.flatten_cons]
    exact h.append (Dats.rep h k)
end

/-- a tuple that is known stands there -/
theorem tx {K : PySem.W.Frag} {G H : Hp} {a : Addr} {xs : List V} (e : Ex G H) (h : G a = some (.tup xs)) : SqT K H a xs := st_of (e _ _ h)
/-! the bag -/
def BagOk (K : PySem.W.Frag) (B : Bx) (G H : Hp) : Prop :=
  ∃ (a b c : Int) (ns : List Int), H B.b = some (.lst [.int a, .int b, .int c, .ref B.L]) ∧ SqL K G B.L (ns.map V.int) ∧ 0 ≤ a ∧ 0 ≤ b ∧ b < 2147483647 ∧ 0 ≤ c ∧ (∀ n ∈ ns, 0 ≤ n) ∧ ns.length ≤ 63
structure Jn (K : PySem.W.Frag) (B : Bx) (G H : Hp) : Prop where
  ex : Ex G H
  no : G B.b = none
  bag : BagOk K B G H
/-- something other than a tuple stands there -/
def Mu (H : Hp) (a : Addr) : Prop := ∃ o, H a = some o ∧ ∀ vs, o ≠ .tup vs
theorem Mu.ne {H : Hp} {a : Addr} (h : Mu H a) : H a ≠ none := by
  obtain ⟨o, e, _⟩ := h
  rw [e]
  simp
structure Gr (K : PySem.W.Frag) (B : Bx) (G H G2 H2 : Hp) : Prop where
  ex : Ex G G2
  keep : ∀ a o, a ≠ B.b → H a = some o → H2 a = some o
  j : Jn K B G2 H2
  old : ∀ a, Mu H a → G2 a = G a
section
variable {K : PySem.W.Frag} {B : Bx} {G H G2 H2 G3 H3 : Hp}
theorem Jn.at (j : Jn K B G H) : ∃ o, H B.b = some o := let ⟨_, _, _, _, h, _⟩ := j.bag; ⟨_, h⟩
theorem Gr.refl (j : Jn K B G H) : Gr K B G H G H := ⟨Ex.refl G, fun _ _ _ h => h, j, fun _ _ => rfl⟩
theorem Gr.trans (x : Gr K B G H G2 H2) (y : Gr K B G2 H2 G3 H3) : Gr K B G H G3 H3 where
  ex := x.ex.trans y.ex
  keep := fun a o n h => y.keep a o n (x.keep a o n h)
  j := y.j
  old := fun a h => by
    have h2 : Mu H2 a := by
      by_cases e : a = B.b
      · subst e
        obtain ⟨_, _, _, _, ho, _⟩ := x.j.bag
        exact ⟨_, ho, fun _ z => by cases z⟩
      · obtain ⟨o, q, n⟩ := h
        exact ⟨o, x.keep a o e q, n⟩
    rw [y.old a h2, x.old a h]
/-- a new object, known from now on -/
theorem Gr.new {p : Addr} {o : HO} (j : Jn K B G H) (hp : H p = none) : Gr K B G H (upd G p o) (upd H p o) := by
  have np : G p = none := fresh_back j.ex hp
  have nb : B.b ≠ p := fun e => by obtain ⟨o, ho⟩ := j.at; rw [e, hp] at ho; cases ho
  refine ⟨Ex.new np, fun a u _ h => ?_, ⟨fun a u h => ?_, by rw [upd_ne nb]; exact j.no, ?_⟩, fun a h => ?_⟩
  · rw [upd_ne (ne_of_none h hp)]; exact h
  · by_cases e : a = p
    · subst e; rw [upd_same] at h ⊢; exact h
    · rw [upd_ne e] at h ⊢; exact j.ex a u h
  · obtain ⟨a, b, c, ns, h1, h2, h3⟩ := j.bag
    exact ⟨a, b, c, ns, by rw [upd_ne nb]; exact h1, ex_l (Ex.new np) h2, h3⟩
  · exact upd_ne fun e => by subst e; exact h.ne hp
/-- a new object, not known -/
theorem Gr.new0 {p : Addr} {o : HO} (j : Jn K B G H) (hp : H p = none) : Gr K B G H G (upd H p o) := by
  have np : G p = none := fresh_back j.ex hp
  have nb : B.b ≠ p := fun e => by obtain ⟨o, ho⟩ := j.at; rw [e, hp] at ho; cases ho
  refine ⟨Ex.refl G, fun a u _ h => ?_, ⟨fun a u h => ?_, j.no, ?_⟩, fun a h => rfl⟩
  · rw [upd_ne (ne_of_none h hp)]; exact h
  · rw [upd_ne (ne_of_none h np)]; exact j.ex a u h
  · obtain ⟨a, b, c, ns, h1, h2, h3⟩ := j.bag
    exact ⟨a, b, c, ns, by rw [upd_ne nb]; exact h1, h2, h3⟩
/-- a tuple that stands there is known from now on -/
theorem Gr.learn {p : Addr} {vs : List V} (j : Jn K B G H) (hp : H p = some (.tup vs)) (gp : G p = none) : Gr K B G H (upd G p (.tup vs)) H := by
  have nb : B.b ≠ p := fun e => by
    obtain ⟨_, _, _, _, ho, _⟩ := j.bag
    rw [e, hp] at ho
    cases ho
  refine ⟨Ex.new gp, fun _ _ _ h => h, ⟨fun a u h => ?_, by rw [upd_ne nb]; exact j.no, ?_⟩, fun a h => upd_ne fun e => ?_⟩
  · by_cases e : a = p
    · subst e; rw [upd_same] at h; cases h; exact hp
    · rw [upd_ne e] at h; exact j.ex a u h
  · obtain ⟨a, b, c, ns, h1, h2, h3⟩ := j.bag
    exact ⟨a, b, c, ns, h1, ex_l (Ex.new gp) h2, h3⟩
  · subst e
    obtain ⟨o, q, n⟩ := h
    rw [hp] at q
    cases q
    exact n _ rfl
/-- an object of one's own changes -/
theorem Gr.own {p : Addr} {o : HO} (x : Gr K B G H G2 H2) (hp : H p = none) (gp : G2 p = none) (nb : p ≠ B.b) : Gr K B G H G2 (upd H2 p o) := by
  refine ⟨x.ex, fun a u n h => ?_, ⟨fun a u h => ?_, x.j.no, ?_⟩, x.old⟩
  · rw [upd_ne (ne_of_none h hp)]; exact x.keep a u n h
  · rw [upd_ne (ne_of_none h gp)]; exact x.j.ex a u h
  · obtain ⟨a, b, c, ns, h1, h2, h3⟩ := x.j.bag
    exact ⟨a, b, c, ns, by rw [upd_ne (Ne.symm nb)]; exact h1, h2, h3⟩
/-- an object of one's own becomes known -/
theorem Gr.frz {p : Addr} {o : HO} (x : Gr K B G H G2 H2) (hp : H p = none) (gp : G2 p = none) (nb : p ≠ B.b) (h2 : H2 p = some o) : Gr K B G H (upd G2 p o) H2 := by
  refine ⟨x.ex.trans (Ex.new gp), x.keep, ⟨fun a u h => ?_, by rw [upd_ne (Ne.symm nb)]; exact x.j.no, ?_⟩, fun a h => ?_⟩
  · by_cases e : a = p
    · subst e; rw [upd_same] at h; cases h; exact h2
    · rw [upd_ne e] at h; exact x.j.ex a u h
  · obtain ⟨a, b, c, ns, h1, h3, h4⟩ := x.j.bag
    exact ⟨a, b, c, ns, h1, ex_l (Ex.new gp) h3, h4⟩
  · rw [upd_ne fun e => by subst e; exact h.ne hp]
    exact x.old a h
end

/-! trees of one's own: lists and dicts that nobody else knows -/
inductive OD where
  | sh (d : D) | lst (xs : List OD) | dic (t : Bool) (ks : List (D × OD))
mutual
inductive Own (K : PySem.W.Frag) (B : Bx) (G H : Hp) : V → OD → List Addr → Prop
  | sh {v : V} {d : D} : Dat K B G v d → Own K B G H v (.sh d) []
  | lst {p : Addr} {vs : List V} {xs : List OD} {f : List Addr} : H p = some (.lst vs) → G p = none → Owns K B G H vs xs f → Own K B G H (.ref p) (.lst xs) (p :: f)
  | dK {p : Addr} {kvs : List (Key × V)} {ks : List (D × OD)} {f : List Addr} : H p = some (.dK kvs) → G p = none → OwnK K B G H kvs ks f → Own K B G H (.ref p) (.dic false ks) (p :: f)
  | dT {p : Addr} {kvs : List (List Key × V)} {ks : List (D × OD)} {f : List Addr} : H p = some (.dT kvs) → G p = none → OwnT K B G H kvs ks f → Own K B G H (.ref p) (.dic true ks) (p :: f)
inductive Owns (K : PySem.W.Frag) (B : Bx) (G H : Hp) : List V → List OD → List Addr → Prop
  | nil : Owns K B G H [] [] []
  | cons {v : V} {o : OD} {f : List Addr} {vs : List V} {os : List OD} {g : List Addr} : Own K B G H v o f → Owns K B G H vs os g → Owns K B G H (v :: vs) (o :: os) (f ++ g)
inductive OwnK (K : PySem.W.Frag) (B : Bx) (G H : Hp) : List (Key × V) → List (D × OD) → List Addr → Prop
  | nil : OwnK K B G H [] [] []
  | consI {i : Int} {v : V} {o : OD} {f : List Addr} {vs : List (Key × V)} {os : List (D × OD)} {g : List Addr} : Own K B G H v o f → OwnK K B G H vs os g → OwnK K B G H ((.inl i, v) :: vs) ((.int i, o) :: os) (f ++ g)
  | consS {x : Str} {v : V} {o : OD} {f : List Addr} {vs : List (Key × V)} {os : List (D × OD)} {g : List Addr} : Own K B G H v o f → OwnK K B G H vs os g → OwnK K B G H ((.inr x, v) :: vs) ((.str x, o) :: os) (f ++ g)
inductive OwnT (K : PySem.W.Frag) (B : Bx) (G H : Hp) : List (List Key × V) → List (D × OD) → List Addr → Prop
  | nil : OwnT K B G H [] [] []
  | cons {k : List Key} {v : V} {o : OD} {f : List Addr} {vs : List (List Key × V)} {os : List (D × OD)} {g : List Addr} : Own K B G H v o f → OwnT K B G H vs os g → OwnT K B G H ((k, v) :: vs) ((embT k, o) :: os) (f ++ g)
end
section
variable {K : PySem.W.Frag} {B : Bx} {G H G2 H2 : Hp}
/-- the places of f stand as they stood -/
def Kept (G H G2 H2 : Hp) (f : List Addr) : Prop := ∀ p ∈ f, H2 p = H p ∧ G2 p = G p
theorem Kept.l {f g : List Addr} (h : Kept G H G2 H2 (f ++ g)) : Kept G H G2 H2 f := fun p hp => h p (List.mem_append_left _ hp)
theorem Kept.r {f g : List Addr} (h : Kept G H G2 H2 (f ++ g)) : Kept G H G2 H2 g := fun p hp => h p (List.mem_append_right _ hp)
theorem Kept.h {p : Addr} {f : List Addr} (h : Kept G H G2 H2 (p :: f)) : H2 p = H p ∧ G2 p = G p := h p List.mem_cons_self
theorem Kept.t {p : Addr} {f : List Addr} (h : Kept G H G2 H2 (p :: f)) : Kept G H G2 H2 f := fun q hq => h q (List.mem_cons_of_mem _ hq)
mutual
theorem Own.keep (e : Ex G G2) : ∀ {v : V} {o : OD} {f : List Addr}, Own K B G H v o f → Kept G H G2 H2 f → Own K B G2 H2 v o f
  | _, _, _, .sh h, _ => .sh (h.mono e)
  | _, _, _, .lst h g t, k => .lst (k.h.1.trans h) (k.h.2.trans g) (Owns.keep e t k.t)
  | _, _, _, .dK h g t, k => .dK (k.h.1.trans h) (k.h.2.trans g) (OwnK.keep e t k.t)
  | _, _, _, .dT h g t, k => .dT (k.h.1.trans h) (k.h.2.trans g) (OwnT.keep e t k.t)
theorem Owns.keep (e : Ex G G2) : ∀ {v : List V} {o : List OD} {f : List Addr}, Owns K B G H v o f → Kept G H G2 H2 f → Owns K B G2 H2 v o f
  | _, _, _, .nil, _ => .nil
  | _, _, _, .cons h t, k => .cons (Own.keep e h k.l) (Owns.keep e t k.r)
theorem OwnK.keep (e : Ex G G2) : ∀ {v : List (Key × V)} {o : List (D × OD)} {f : List Addr}, OwnK K B G H v o f → Kept G H G2 H2 f → OwnK K B G2 H2 v o f
  | _, _, _, .nil, _ => .nil
  | _, _, _, .consI h t, k => .consI (Own.keep e h k.l) (OwnK.keep e t k.r)
  | _, _, _, .consS h t, k => .consS (Own.keep e h k.l) (OwnK.keep e t k.r)
theorem OwnT.keep (e : Ex G G2) : ∀ {v : List (List Key × V)} {o : List (D × OD)} {f : List Addr}, OwnT K B G H v o f → Kept G H G2 H2 f → OwnT K B G2 H2 v o f
  | _, _, _, .nil, _ => .nil
  | _, _, _, .cons h t, k => .cons (Own.keep e h k.l) (OwnT.keep e t k.r)
end
/-- an own place: a list or a dict stands there, and nobody knows it -/
def Node (G H : Hp) (p : Addr) : Prop := G p = none ∧ ((∃ vs, H p = some (.lst vs)) ∨ (∃ vs, H p = some (.dK vs)) ∨ ∃ vs, H p = some (.dT vs))
theorem Node.at {p : Addr} (n : Node G H p) : Mu H p := by
  rcases n.2 with ⟨_, h⟩ | ⟨_, h⟩ | ⟨_, h⟩ <;> exact ⟨_, h, fun _ z => by cases z⟩
mutual
theorem Own.node : ∀ {v : V} {o : OD} {f : List Addr}, Own K B G H v o f → ∀ p ∈ f, Node G H p
  | _, _, _, .sh _, p, hp => nomatch hp
  | _, _, _, .lst h g t, p, hp => (List.mem_cons.mp hp).elim (fun e => by subst e; exact ⟨g, .inl ⟨_, h⟩⟩) (Owns.node t p)
  | _, _, _, .dK h g t, p, hp => (List.mem_cons.mp hp).elim (fun e => by subst e; exact ⟨g, .inr (.inl ⟨_, h⟩)⟩) (OwnK.node t p)
  | _, _, _, .dT h g t, p, hp => (List.mem_cons.mp hp).elim (fun e => by subst e; exact ⟨g, .inr (.inr ⟨_, h⟩)⟩) (OwnT.node t p)
theorem Owns.node : ∀ {v : List V} {o : List OD} {f : List Addr}, Owns K B G H v o f → ∀ p ∈ f, Node G H p
  | _, _, _, .nil, p, hp => nomatch hp
  | _, _, _, .cons h t, p, hp => (List.mem_append.mp hp).elim (Own.node h p) (Owns.node t p)
theorem OwnK.node : ∀ {v : List (Key × V)} {o : List (D × OD)} {f : List Addr}, OwnK K B G H v o f → ∀ p ∈ f, Node G H p
  | _, _, _, .nil, p, hp => nomatch hp
  | _, _, _, .consI h t, p, hp => (List.mem_append.mp hp).elim (Own.node h p) (OwnK.node t p)
  | _, _, _, .consS h t, p, hp => (List.mem_append.mp hp).elim (Own.node h p) (OwnK.node t p)
theorem OwnT.node : ∀ {v : List (List Key × V)} {o : List (D × OD)} {f : List Addr}, OwnT K B G H v o f → ∀ p ∈ f, Node G H p
  | _, _, _, .nil, p, hp => nomatch hp
  | _, _, _, .cons h t, p, hp => (List.mem_append.mp hp).elim (Own.node h p) (OwnT.node t p)
end
/-! as data -/
mutual
def OD.toD : OD → D
  | .sh d => d
  | .lst xs => .lst (toDs xs)
  | .dic _ ks => .dic (toDk ks)
def toDs : List OD → List D
  | [] => []
  | x :: xs => x.toD :: toDs xs
def toDk : List (D × OD) → List (D × D)
  | [] => []
  | (k, x) :: xs => (k, x.toD) :: toDk xs
end
def frzG (G H : Hp) (f : List Addr) : Hp := fun a => if a ∈ f then H a else G a
theorem frz_ex {f : List Addr} (h : ∀ p ∈ f, G p = none) : Ex G (frzG G H f) := fun a o e => by
  unfold frzG
  rw [if_neg fun z => by rw [h a z] at e; cases e]
  exact e
theorem frz_in {f : List Addr} {p : Addr} (h : p ∈ f) : frzG G H f p = H p := if_pos h
/-- the dicts at these places are locked -/
structure Lkd (H L : Hp) (f : List Addr) : Prop where
  out : ∀ p, p ∉ f → L p = H p
  lst : ∀ p vs, H p = some (.lst vs) → L p = some (.lst vs)
  dK : ∀ p vs, p ∈ f → H p = some (.dK vs) → ∃ od, L p = some (.frz od (.dK vs))
  dT : ∀ p vs, p ∈ f → H p = some (.dT vs) → ∃ od, L p = some (.frz od (.dT vs))
mutual
theorem Own.dat {L : Hp} {F : List Addr} (hF : ∀ p ∈ F, G p = none) (hL : Lkd H L F) : ∀ {v : V} {o : OD} {f : List Addr}, Own K B G H v o f → (∀ p ∈ f, p ∈ F) → Dat K B (frzG G L F) v o.toD
  | _, _, _, .sh h, _ => h.mono (frz_ex hF)
  | _, _, _, .lst h g t, k => .lst ((frz_in (k _ List.mem_cons_self)).trans (hL.lst _ _ h)) (Owns.dat hF hL t fun p hp => k p (List.mem_cons_of_mem _ hp))
  | _, _, _, .dK h g t, k => let ⟨_, e⟩ := hL.dK _ _ (k _ List.mem_cons_self) h; .dK ((frz_in (k _ List.mem_cons_self)).trans e) (OwnK.dat hF hL t fun p hp => k p (List.mem_cons_of_mem _ hp))
  | _, _, _, .dT h g t, k => let ⟨_, e⟩ := hL.dT _ _ (k _ List.mem_cons_self) h; .dT ((frz_in (k _ List.mem_cons_self)).trans e) (OwnT.dat hF hL t fun p hp => k p (List.mem_cons_of_mem _ hp))
theorem Owns.dat {L : Hp} {F : List Addr} (hF : ∀ p ∈ F, G p = none) (hL : Lkd H L F) : ∀ {v : List V} {o : List OD} {f : List Addr}, Owns K B G H v o f → (∀ p ∈ f, p ∈ F) → Dats K B (frzG G L F) v (toDs o)
  | _, _, _, .nil, _ => .nil
  | _, _, _, .cons h t, k => .cons (Own.dat hF hL h fun p hp => k p (List.mem_append_left _ hp)) (Owns.dat hF hL t fun p hp => k p (List.mem_append_right _ hp))
theorem OwnK.dat {L : Hp} {F : List Addr} (hF : ∀ p ∈ F, G p = none) (hL : Lkd H L F) : ∀ {v : List (Key × V)} {o : List (D × OD)} {f : List Addr}, OwnK K B G H v o f → (∀ p ∈ f, p ∈ F) → DatK K B (frzG G L F) v (toDk o)
  | _, _, _, .nil, _ => .nil
  | _, _, _, .consI h t, k => .consI (Own.dat hF hL h fun p hp => k p (List.mem_append_left _ hp)) (OwnK.dat hF hL t fun p hp => k p (List.mem_append_right _ hp))
  | _, _, _, .consS h t, k => .consS (Own.dat hF hL h fun p hp => k p (List.mem_append_left _ hp)) (OwnK.dat hF hL t fun p hp => k p (List.mem_append_right _ hp))
theorem OwnT.dat {L : Hp} {F : List Addr} (hF : ∀ p ∈ F, G p = none) (hL : Lkd H L F) : ∀ {v : List (List Key × V)} {o : List (D × OD)} {f : List Addr}, OwnT K B G H v o f → (∀ p ∈ f, p ∈ F) → DatT K B (frzG G L F) v (toDk o)
  | _, _, _, .nil, _ => .nil
  | _, _, _, .cons h t, k => .cons (Own.dat hF hL h fun p hp => k p (List.mem_append_left _ hp)) (OwnT.dat hF hL t fun p hp => k p (List.mem_append_right _ hp))
end
/-- a list of data, all shared -/
theorem Owns.of : ∀ {vs : List V} {ds : List D}, Dats K B G vs ds → Owns K B G H vs (ds.map .sh) []
  | _, _, .nil => .nil
  | _, _, .cons h t => .cons (.sh h) (Owns.of t)
theorem toDs_sh : ∀ ds : List D, toDs (ds.map .sh) = ds
  | [] => rfl
  | d :: ds => by rw [List.map_cons, toDs, toDs_sh ds]; rfl
end

/-! slots -/
inductive SD where
  | sh (d : D) | ow (v : V) (o : OD) | nw (x : Addr) (C : Nat) (fs : List (Option D))
def FldOk (K : PySem.W.Frag) (B : Bx) (G : Hp) (vs : List (Option V)) (fs : List (Option D)) : Prop :=
  vs.length = fs.length ∧ ∀ (i : Nat) (d : D), fs[i]? = some (some d) → ∃ v, vs[i]? = some (some v) ∧ Dat K B G v d
theorem FldOk.mono {K : PySem.W.Frag} {B : Bx} {G G2 : Hp} {vs : List (Option V)} {fs : List (Option D)} (h : FldOk K B G vs fs) (e : Ex G G2) : FldOk K B G2 vs fs :=
  ⟨h.1, fun i d q => let ⟨v, a, b⟩ := h.2 i d q; ⟨v, a, b.mono e⟩⟩
/-- an instance that is being made: its fields so far -/
structure NwAt (K : PySem.W.Frag) (B : Bx) (H0 G H : Hp) (x : Addr) (C : Nat) (dx : Addr) (vs : List (Option V)) (fs : List (Option D)) : Prop where
  sl : SlX.Slt H x (B.ct C) dx vs
  dc : H dx = some (.own x) ∨ H dx = some (.xd [])
  ne : dx ≠ x
  gx : G x = none
  gd : G dx = none
  hx : H0 x = none
  hd : H0 dx = none
  bx : x ≠ B.b
  bd : dx ≠ B.b
  fl : FldOk K B G vs fs
theorem slt_keep {H H2 : Hp} {x C dx : Addr} {vs : List (Option V)} (h : SlX.Slt H x C dx vs) (k1 : ∀ o, H x = some o → H2 x = some o) (k2 : ∀ o, H dx = some o → H2 dx = some o) : SlX.Slt H2 x C dx vs := by
  rcases h with ⟨a, b⟩ | ⟨a, b⟩
  · exact .inl ⟨k1 _ a, b⟩
  · exact .inr ⟨k1 _ a, k2 _ b⟩
theorem NwAt.keep {K : PySem.W.Frag} {B : Bx} {H0 G H G2 H2 : Hp} {x dx : Addr} {C : Nat} {vs : List (Option V)} {fs : List (Option D)} (n : NwAt K B H0 G H x C dx vs fs) (e : Ex G G2) (k : Kept G H G2 H2 [x, dx]) : NwAt K B H0 G2 H2 x C dx vs fs := by
  have k1 := k x (by simp)
  have k2 := k dx (by simp)
  exact ⟨slt_keep n.sl (fun o z => k1.1.trans z) (fun o z => k2.1.trans z), n.dc.imp (fun z => k2.1.trans z) (fun z => k2.1.trans z), n.ne, k1.2.trans n.gx, k2.2.trans n.gd, n.hx, n.hd, n.bx, n.bd, n.fl.mono e⟩
abbrev DS := List (Option SD)
/-- what stands in a slot, and the places that are its own -/
inductive SlotOk (K : PySem.W.Frag) (B : Bx) (H0 G H : Hp) : Option V → Option SD → List Addr → Prop
  | no {ov : Option V} : SlotOk K B H0 G H ov none []
  | sh {v : V} {d : D} : Dat K B G v d → SlotOk K B H0 G H (some v) (some (.sh d)) []
  | ow {v : V} {o : OD} {f : List Addr} : Own K B G H v o f → f.Nodup → (∀ p ∈ f, H0 p = none ∧ p ≠ B.b) → SlotOk K B H0 G H (some v) (some (.ow v o)) f
  | nw {x dx : Addr} {C : Nat} {vs : List (Option V)} {fs : List (Option D)} : NwAt K B H0 G H x C dx vs fs → SlotOk K B H0 G H (some (.ref x)) (some (.nw x C fs)) [x, dx]
section
variable {K : PySem.W.Frag} {B : Bx} {H0 G H G2 H2 : Hp} {σ : L2.St} {δ : DS} {ov : Option V} {od : Option SD} {f : List Addr}
theorem SlotOk.keep (s : SlotOk K B H0 G H ov od f) (e : Ex G G2) (k : Kept G H G2 H2 f) : SlotOk K B H0 G2 H2 ov od f := by
  cases s with
  | no => exact .no
  | sh h => exact .sh (h.mono e)
  | ow h n q => exact .ow (h.keep e k) n q
  | nw n => exact .nw (n.keep e k)
theorem SlotOk.at (s : SlotOk K B H0 G H ov od f) : ∀ p ∈ f, Mu H p ∧ p ≠ B.b ∧ G p = none ∧ H0 p = none := by
  cases s with
  | no => exact fun p hp => nomatch hp
  | sh h => exact fun p hp => nomatch hp
  | ow h n q => exact fun p hp => ⟨(h.node p hp).at, (q p hp).2, (h.node p hp).1, (q p hp).1⟩
  | @nw x dx C vs fs n =>
    intro p hp
    rcases (show p = x ∨ p = dx by simpa using hp) with rfl | rfl
    · exact ⟨by rcases n.sl with ⟨q, _⟩ | ⟨q, _⟩ <;> exact ⟨_, q, fun _ z => by cases z⟩, n.bx, n.gx, n.hx⟩
    · exact ⟨by rcases n.dc with q | q <;> exact ⟨_, q, fun _ z => by cases z⟩, n.bd, n.gd, n.hd⟩
/-- all slots, by their own places -/
structure StF (K : PySem.W.Frag) (B : Bx) (H0 G H : Hp) (σ : L2.St) (δ : DS) (F : Nat → List Addr) : Prop where
  len : σ.length = δ.length
  at_ : ∀ (i : Nat) (ov : Option V) (od : Option SD), σ[i]? = some ov → δ[i]? = some od → SlotOk K B H0 G H ov od (F i)
  dj : ∀ (i j : Nat), i < σ.length → j < σ.length → i ≠ j → ∀ p ∈ F i, p ∉ F j
structure StOk (K : PySem.W.Frag) (B : Bx) (H0 G H : Hp) (σ : L2.St) (δ : DS) : Prop where
  ex : ∃ F, StF K B H0 G H σ δ F
theorem StOk.len (x : StOk K B H0 G H σ δ) : σ.length = δ.length := let ⟨_, h⟩ := x.ex; h.len
theorem StF.get {F : Nat → List Addr} (x : StF K B H0 G H σ δ F) {i : Nat} {od : Option SD} (h : δ[i]? = some od) : ∃ ov, σ[i]? = some ov ∧ SlotOk K B H0 G H ov od (F i) := by
  have hl : i < σ.length := by rw [x.len]; exact (List.getElem?_eq_some_iff.mp h).1
  exact ⟨σ[i], List.getElem?_eq_getElem hl, x.at_ i _ od (List.getElem?_eq_getElem hl) h⟩
theorem StOk.sh (x : StOk K B H0 G H σ δ) (i : Nat) (d : D) (h : δ[i]? = some (some (.sh d))) : ∃ v, σ[i]? = some (some v) ∧ Dat K B G v d := by
  obtain ⟨F, y⟩ := x.ex
  obtain ⟨ov, h1, s⟩ := y.get h
  generalize F i = f at s
  cases s with
  | sh q => exact ⟨_, h1, q⟩
theorem StOk.nw (x : StOk K B H0 G H σ δ) (i : Nat) (a : Addr) (C : Nat) (fs : List (Option D)) (h : δ[i]? = some (some (.nw a C fs))) : ∃ dx vs, σ[i]? = some (some (.ref a)) ∧ NwAt K B H0 G H a C dx vs fs := by
  obtain ⟨F, y⟩ := x.ex
  obtain ⟨ov, h1, s⟩ := y.get h
  generalize F i = f at s
  cases s with
  | nw n => exact ⟨_, _, h1, n⟩
theorem StF.ow {F : Nat → List Addr} (x : StF K B H0 G H σ δ F) {i : Nat} {v : V} {o : OD} (h : δ[i]? = some (some (.ow v o))) : σ[i]? = some (some v) ∧ Own K B G H v o (F i) ∧ (F i).Nodup ∧ ∀ p ∈ F i, H0 p = none ∧ p ≠ B.b := by
  obtain ⟨ov, h1, s⟩ := x.get h
  generalize F i = f at s ⊢
  cases s with
  | ow a b c => exact ⟨h1, a, b, c⟩
/-- one slot changes, and what is its own -/
theorem StF.put {F : Nat → List Addr} {i : Nat} {fi : List Addr} (x : StF K B H0 G H σ δ F) (hi : i < σ.length) (e : Ex G G2) (hk : ∀ p, Mu H p → p ≠ B.b → p ∉ F i → H2 p = H p ∧ G2 p = G p) (s : SlotOk K B H0 G2 H2 ov od fi) (hf : ∀ p ∈ fi, H p = none ∨ p ∈ F i) :
    StF K B H0 G2 H2 (σ.set i ov) (δ.set i od) (fun j => if j = i then fi else F j) where
  len := by rw [List.length_set, List.length_set]; exact x.len
  at_ := fun j uv ud h1 h2 => by
    by_cases hj : i = j
    · subst hj
      have hl : i < σ.length := by have := (List.getElem?_eq_some_iff.mp h1).1; rwa [List.length_set] at this
      rw [List.getElem?_set_self hl] at h1
      rw [List.getElem?_set_self (by rw [← x.len]; exact hl)] at h2
      cases h1
      cases h2
      rw [if_pos rfl]
      exact s
    · rw [List.getElem?_set_ne hj] at h1 h2
      rw [if_neg (Ne.symm hj)]
      have q := x.at_ j uv ud h1 h2
      have hlj : j < σ.length := (List.getElem?_eq_some_iff.mp h1).1
      refine q.keep e fun p hp => ?_
      have a := q.at p hp
      exact hk p a.1 a.2.1 (x.dj j i hlj hi (Ne.symm hj) p hp)
  dj := fun a b ha hb hab p hp hq => by
    rw [List.length_set] at ha hb
    by_cases h1 : a = i
    · rw [if_pos h1] at hp
      have h2 : b ≠ i := fun z => hab (h1.trans z.symm)
      rw [if_neg h2] at hq
      obtain ⟨ud, hud⟩ : ∃ ud, δ[b]? = some ud := ⟨δ[b]'(by rw [← x.len]; exact hb), List.getElem?_eq_getElem _⟩
      obtain ⟨uv, huv, q⟩ := x.get hud
      rcases hf p hp with z | z
      · exact (q.at p hq).1.ne z
      · exact x.dj i b (h1 ▸ ha) hb (Ne.symm h2) p z hq
    · rw [if_neg h1] at hp
      by_cases h2 : b = i
      · rw [if_pos h2] at hq
        obtain ⟨ud, hud⟩ : ∃ ud, δ[a]? = some ud := ⟨δ[a]'(by rw [← x.len]; exact ha), List.getElem?_eq_getElem _⟩
        obtain ⟨uv, huv, q⟩ := x.get hud
        rcases hf p hq with z | z
        · exact (q.at p hp).1.ne z
        · exact x.dj a i ha (h2 ▸ hb) h1 p hp z
      · rw [if_neg h2] at hq
        exact x.dj a b ha hb hab p hp hq
end
section
variable {K : PySem.W.Frag} {B : Bx} {H0 G H G2 H2 : Hp} {σ : L2.St} {δ : DS}
theorem StF.gr {F : Nat → List Addr} (x : StF K B H0 G H σ δ F) (g : Gr K B G H G2 H2) : StF K B H0 G2 H2 σ δ F where
  len := x.len
  dj := x.dj
  at_ := fun i ov od h1 h2 => (x.at_ i ov od h1 h2).keep g.ex fun p hp => by
    have a := (x.at_ i ov od h1 h2).at p hp
    refine ⟨?_, g.old p a.1⟩
    cases q : H p with
    | none => exact absurd q a.1.ne
    | some o => exact g.keep p o a.2.1 q
theorem StOk.gr (x : StOk K B H0 G H σ δ) (g : Gr K B G H G2 H2) : StOk K B H0 G2 H2 σ δ := let ⟨F, y⟩ := x.ex; ⟨F, y.gr g⟩
theorem set_out {α : Type} {l : List α} {i : Nat} {a : α} (h : ¬ i < l.length) : l.set i a = l := by
  apply List.ext_getElem?
  intro j
  by_cases hj : i = j
  · subst hj
    rw [List.getElem?_eq_none_iff.mpr (by rw [List.length_set]; omega), List.getElem?_eq_none_iff.mpr (by omega)]
  · rw [List.getElem?_set_ne hj]
theorem StOk.put0 {i : Nat} {ov : Option V} {od : Option SD} (x : StOk K B H0 G H σ δ) (s : SlotOk K B H0 G H ov od []) : StOk K B H0 G H (σ.set i ov) (δ.set i od) := by
  by_cases hi : i < σ.length
  · obtain ⟨F, y⟩ := x.ex
    exact ⟨_, y.put hi (Ex.refl G) (fun _ _ _ _ => ⟨rfl, rfl⟩) s fun p hp => nomatch hp⟩
  · rw [set_out hi, set_out (by rw [← x.len]; exact hi)]
    exact x
/-- a slot is filled with data -/
theorem StOk.set {i : Nat} {v : V} {d : D} (x : StOk K B H0 G H σ δ) (h : Dat K B G v d) : StOk K B H0 G H (σ.set i (some v)) (δ.set i (some (.sh d))) := x.put0 (.sh h)
/-- less is known of a slot -/
theorem StOk.forget {i : Nat} {o : Option V} (x : StOk K B H0 G H σ δ) : StOk K B H0 G H (σ.set i o) (δ.set i none) := x.put0 .no
/-- a slot is filled with what is new and one's own -/
theorem StOk.setO {i : Nat} {v : V} {o : OD} {f : List Addr} (x : StOk K B H0 G H σ δ) (g : Gr K B G H G2 H2) (h : Own K B G2 H2 v o f) (nd : f.Nodup) (hf : ∀ p ∈ f, H p = none ∧ H0 p = none ∧ p ≠ B.b) : StOk K B H0 G2 H2 (σ.set i (some v)) (δ.set i (some (.ow v o))) := by
  by_cases hi : i < σ.length
  · obtain ⟨F, y⟩ := x.ex
    refine ⟨_, y.put hi g.ex (fun p h1 h2 _ => ⟨?_, g.old p h1⟩) (.ow h nd fun p hp => (hf p hp).2) fun p hp => .inl (hf p hp).1⟩
    cases q : H p with
    | none => exact absurd q h1.ne
    | some o => exact g.keep p o h2 q
  · rw [set_out hi, set_out (by rw [← x.len]; exact hi)]
    exact x.gr g
end
end DL
namespace DL
open PySem PySem.Spec PyProof.Rows L2 Evl

/-! readings over data -/
abbrev DE := DS → (D → Prop) → Prop
abbrev DA := DS → (List D → Prop) → Prop
abbrev DT := DS → (Bool → Prop) → Prop
structure DEnds where
  nx : DS → Prop
  rt : D → Prop
  bk : DS → Prop := fun _ => False
  ct : DS → Prop := fun _ => False
  ro : OD → Prop := fun _ => False
abbrev DTS := DEnds → DS → Prop
abbrev DG := D → DS → (DS → Prop) → Prop
abbrev DGs := List D → DS → (DS → Prop) → Prop

def liftE (K : PySem.W.Frag) (B : Bx) (r : DE) : TE := fun σ H P => ∃ (H0 G : Hp) (δ : DS) (Q : D → Prop), Jn K B G H ∧ StOk K B H0 G H σ δ ∧ r δ Q ∧ ∀ d v G2 H2, Q d → Gr K B G H G2 H2 → Dat K B G2 v d → P v H2
/-- a new list that nobody knows -/
def liftF (K : PySem.W.Frag) (B : Bx) (r : DA) : TE := fun σ H P => ∃ (H0 G : Hp) (δ : DS) (Q : List D → Prop), Jn K B G H ∧ StOk K B H0 G H σ δ ∧ r δ Q ∧ ∀ ds p vs G2 H2, Q ds → Gr K B G H G2 H2 → H p = none → G2 p = none → H2 p = some (.lst vs) → Dats K B G2 vs ds → P (.ref p) H2
def liftA (K : PySem.W.Frag) (B : Bx) (r : DA) : TA := fun σ H P => ∃ (H0 G : Hp) (δ : DS) (Q : List D → Prop), Jn K B G H ∧ StOk K B H0 G H σ δ ∧ r δ Q ∧ ∀ ds vs G2 H2, Q ds → Gr K B G H G2 H2 → Dats K B G2 vs ds → P vs H2
def liftT (K : PySem.W.Frag) (B : Bx) (r : DT) : TT := fun σ H P => ∃ (H0 G : Hp) (δ : DS) (Q : Bool → Prop), Jn K B G H ∧ StOk K B H0 G H σ δ ∧ r δ Q ∧ ∀ b G2 H2, Q b → Gr K B G H G2 H2 → P b H2
structure Endy (K : PySem.W.Frag) (B : Bx) (G0 H0 Gc : Hp) (W : DEnds) (E : Ends) : Prop where
  nx : ∀ σ δ G H, W.nx δ → Gr K B G0 H0 G H → Ex Gc G → StOk K B H0 G H σ δ → E.nx σ H
  bk : ∀ σ δ G H, W.bk δ → Gr K B G0 H0 G H → Ex Gc G → StOk K B H0 G H σ δ → E.bk σ H
  ct : ∀ σ δ G H, W.ct δ → Gr K B G0 H0 G H → Ex Gc G → StOk K B H0 G H σ δ → E.ct σ H
  rt : ∀ d v G H, W.rt d → Gr K B G0 H0 G H → Ex Gc G → Dat K B G v d → E.rt v H
  ro : ∀ o v f G H, W.ro o → Gr K B G0 H0 G H → Ex Gc G → Own K B G H v o f → f.Nodup → (∀ p ∈ f, H0 p = none ∧ p ≠ B.b) → E.rt v H
theorem Endy.up {K : PySem.W.Frag} {B : Bx} {G0 H0 Gc Gd : Hp} {W : DEnds} {E : Ends} (k : Endy K B G0 H0 Gc W E) (e : Ex Gc Gd) : Endy K B G0 H0 Gd W E :=
  ⟨fun σ δ G H a b c d => k.nx σ δ G H a b (e.trans c) d, fun σ δ G H a b c d => k.bk σ δ G H a b (e.trans c) d, fun σ δ G H a b c d => k.ct σ δ G H a b (e.trans c) d, fun d v G H a b c h => k.rt d v G H a b (e.trans c) h, fun o v f G H a b c h => k.ro o v f G H a b (e.trans c) h⟩
def liftS (K : PySem.W.Frag) (B : Bx) (t : DTS) : TS := fun E σ H => ∃ (G0 H0 G : Hp) (δ : DS) (W : DEnds), Gr K B G0 H0 G H ∧ StOk K B H0 G H σ δ ∧ t W δ ∧ Endy K B G0 H0 G W E
/-- only these slots are stored -/
def Upd (is : List Nat) (σ σ' : L2.St) : Prop := σ'.length = σ.length ∧ ∀ j : Nat, j ∉ is → σ'[j]? = σ[j]?
theorem Upd.refl (is : List Nat) (σ : L2.St) : Upd is σ σ := ⟨rfl, fun _ _ => rfl⟩
theorem Upd.trans {is js : List Nat} {σ σ' σ2 : L2.St} (a : Upd is σ σ') (b : Upd js σ' σ2) : Upd (is ++ js) σ σ2 :=
  ⟨b.1.trans a.1, fun j hj => (b.2 j fun z => hj (List.mem_append_right _ z)).trans (a.2 j fun z => hj (List.mem_append_left _ z))⟩
theorem wipe_at (σ : L2.St) (j : Nat) : ∀ vs : List Nat, (wipe σ vs)[j]? = if j ∈ vs ∧ j < σ.length then some none else σ[j]?
  | [] => by simp [wipe]
  | v :: vs => by
    unfold wipe
    by_cases e : v = j
    · subst e
      by_cases hl : v < σ.length
      · rw [List.getElem?_set_self (by rw [wipe_length]; exact hl), if_pos ⟨by simp, hl⟩]
      · rw [List.getElem?_eq_none_iff.mpr (by rw [List.length_set, wipe_length]; omega), if_neg (fun z => hl z.2), List.getElem?_eq_none_iff.mpr (by omega)]
    · rw [List.getElem?_set_ne e, wipe_at σ j vs]
      have : (j ∈ v :: vs) ↔ (j ∈ vs) := by simp [Ne.symm e]
      simp only [this]
theorem Upd.wipe {is vs : List Nat} {σ σ' : L2.St} (a : Upd is σ σ') (h : ∀ i ∈ is, i ∈ vs) : L2.wipe σ' vs = L2.wipe σ vs := by
  apply List.ext_getElem?
  intro j
  rw [wipe_at, wipe_at, a.1]
  by_cases hj : j ∈ vs
  · by_cases hl : j < σ.length
    · rw [if_pos ⟨hj, hl⟩, if_pos ⟨hj, hl⟩]
    · rw [if_neg (fun z => hl z.2), if_neg (fun z => hl z.2), List.getElem?_eq_none_iff.mpr (by rw [a.1]; omega), List.getElem?_eq_none_iff.mpr (by omega)]
  · rw [if_neg (fun z => hj z.1), if_neg (fun z => hj z.1)]
    exact a.2 j fun z => hj (h j z)
theorem wipe_wipe (σ : L2.St) (vs : List Nat) : wipe (wipe σ vs) vs = wipe σ vs := by
  apply List.ext_getElem?
  intro j
  rw [wipe_at, wipe_at, wipe_length]
  by_cases h : j ∈ vs ∧ j < σ.length
  · simp [h]
  · simp [h]
def liftG (K : PySem.W.Frag) (B : Bx) (is : List Nat) (g : DG) : TG := fun v σ H R => ∃ (H0 G : Hp) (δ : DS) (d : D) (Q : DS → Prop), Jn K B G H ∧ StOk K B H0 G H σ δ ∧ Dat K B G v d ∧ g d δ Q ∧ ∀ σ' δ', Q δ' → StOk K B H0 G H σ' δ' → Upd is σ σ' → R σ' H
def liftGs (K : PySem.W.Frag) (B : Bx) (is : List Nat) (g : DGs) : TGs := fun vs σ H R => ∃ (H0 G : Hp) (δ : DS) (ds : List D) (Q : DS → Prop), Jn K B G H ∧ StOk K B H0 G H σ δ ∧ Dats K B G vs ds ∧ g ds δ Q ∧ ∀ σ' δ', Q δ' → StOk K B H0 G H σ' δ' → Upd is σ σ' → R σ' H

abbrev PD (X : Cx) (B : Bx) (e : Expr) (r : DE) : Prop := PE X e (liftE X.K B r)
abbrev PF (X : Cx) (B : Bx) (e : Expr) (r : DA) : Prop := PE X e (liftF X.K B r)
abbrev PAD (X : Cx) (B : Bx) (es : List Expr) (r : DA) : Prop := PA X es (liftA X.K B r)
abbrev PTD (X : Cx) (B : Bx) (e : Expr) (r : DT) : Prop := PT X e (liftT X.K B r)
abbrev PWD (X : Cx) (B : Bx) (e : Expr) (r : DT) : Prop := PW X e (liftT X.K B r)
abbrev PSD (X : Cx) (B : Bx) (st : Stmt) (t : DTS) : Prop := PS X st (liftS X.K B t)
abbrev PSsD (X : Cx) (B : Bx) (st : List Stmt) (t : DTS) : Prop := PSs X st (liftS X.K B t)
abbrev PGD (X : Cx) (B : Bx) (e : Expr) (is : List Nat) (g : DG) : Prop := PG X e (liftG X.K B is g)
abbrev PGsD (X : Cx) (B : Bx) (es : List Expr) (is : List Nat) (g : DGs) : Prop := PGs X es (liftGs X.K B is g)

theorem pe_mono {X : Cx} {e : Expr} {t t' : TE} (h : PE X e t) (m : ∀ σ H Q, t' σ H Q → t σ H Q) : PE X e t' := ⟨fun pins s σ H Q I hw => h.run pins s σ H Q I (m σ H Q hw)⟩
theorem pt_mono {X : Cx} {e : Expr} {t t' : TT} (h : PT X e t) (m : ∀ σ H Q, t' σ H Q → t σ H Q) : PT X e t' := ⟨fun pins s σ H Q I hw => h.run pins s σ H Q I (m σ H Q hw)⟩
theorem pw_mono {X : Cx} {e : Expr} {t t' : TT} (h : PW X e t) (m : ∀ σ H Q, t' σ H Q → t σ H Q) : PW X e t' := ⟨fun wh pins s σ H Q I hw => h.run wh pins s σ H Q I (m σ H Q hw)⟩
theorem pa_mono {X : Cx} {e : List Expr} {t t' : TA} (h : PA X e t) (m : ∀ σ H Q, t' σ H Q → t σ H Q) : PA X e t' := ⟨fun pos pins s σ H Q I hw => h.run pos pins s σ H Q I (m σ H Q hw)⟩
theorem ps_mono {X : Cx} {e : Stmt} {t t' : TS} (h : PS X e t) (m : ∀ E σ H, t' E σ H → t E σ H) : PS X e t' := ⟨fun pins s σ H E I hw => h.run pins s σ H E I (m E σ H hw)⟩
theorem pss_mono {X : Cx} {e : List Stmt} {t t' : TS} (h : PSs X e t) (m : ∀ E σ H, t' E σ H → t E σ H) : PSs X e t' := ⟨fun pins s σ H E I hw => h.run pins s σ H E I (m E σ H hw)⟩
theorem pg_mono {X : Cx} {e : Expr} {t t' : TG} (h : PG X e t) (m : ∀ v σ H R, t' v σ H R → t v σ H R) : PG X e t' := ⟨fun pins s σ H v u R I r hw => h.run pins s σ H v u R I r (m v σ H R hw)⟩
theorem pgs_mono {X : Cx} {e : List Expr} {t t' : TGs} (h : PGs X e t) (m : ∀ v σ H R, t' v σ H R → t v σ H R) : PGs X e t' := ⟨fun pins s σ H v u R I r hw => h.run pins s σ H v u R I r (m v σ H R hw)⟩

section
variable {X : Cx} {B : Bx} {a b e : Expr} {es : List Expr} {ra rb r : DE} {pos : Pos}

/-! names, constants -/
def dVar (i : Nat) : DE := fun δ Q => match δ[i]? with
  | some (some (.sh d)) => Q d
  | _ => False
def dC (d : D) : DE := fun _ Q => Q d
theorem pd_of_var {i : Nat} (h : PE X e (tVar i)) : PD X B e (dVar i) := pe_mono h fun σ H P q => by
  obtain ⟨H0, G, δ, Q, j, st, hr, k⟩ := q
  unfold dVar at hr
  cases h1 : δ[i]? with
  | none => rw [h1] at hr; exact hr.elim
  | some o =>
    cases o with
    | none => rw [h1] at hr; exact hr.elim
    | some x =>
      cases x with
      | ow xs => rw [h1] at hr; exact hr.elim
      | nw _ _ _ => rw [h1] at hr; exact hr.elim
      | sh d =>
        rw [h1] at hr
        obtain ⟨v, hv, hd⟩ := st.sh i d h1
        exact ⟨v, hv, k d v G H hr (Gr.refl j) hd⟩
theorem pd_var (i : Nat) {x : Str} (hN : X.N[i]? = some x := by rfl) (hv : Vis X.env.scope x := by first | exact Or.inl rfl | exact Or.inr (Or.inl rfl) | exact Or.inr (Or.inr rfl)) (hd : (x == ("__debug__" : Str)) = false := by decide)
    (hcd : (x == ("__classdict__" : Str)) = false := by decide) : PD X B (.Name x pos) (dVar i) := pd_of_var (pe_var hN hv hd hcd)
theorem pd_of_c {v : V} {d : D} (h : PE X e (tC v)) (hd : ∀ G, Dat X.K B G v d) : PD X B e (dC d) := pe_mono h fun σ H P q => by
  obtain ⟨H0, G, δ, Q, j, st, hr, k⟩ := q
  exact k d v G H hr (Gr.refl j) (hd G)
theorem pd_int {i : Int} {j : Nat} : PD X B (.Constant (.int i) j pos) (dC (.int i)) := pd_of_c pe_int fun _ => .int i
theorem pd_bl {b : Bool} {j : Nat} : PD X B (.Constant (.bool b) j pos) (dC (.bl b)) := pd_of_c pe_bl fun _ => .bl b
theorem pd_non {j : Nat} : PD X B (.Constant .none j pos) (dC .non) := pd_of_c pe_non fun _ => .non
theorem pd_str {x : Str} {j : Nat} : PD X B (.Constant (.str x) j pos) (dC (.str x)) := pd_of_c pe_str fun _ => .str x
theorem pd_glob {x : Str} {v : V} {u : Value} {d : D} (hg : Gl X x) (hm : X.mg x = some u) (r : RelV v u) (hd : ∀ G, Dat X.K B G v d) (hdb : (x == ("__debug__" : Str)) = false := by decide) : PD X B (.Name x pos) (dC d) := pd_of_c (pe_glob hg hm r hdb) hd

/-! arguments -/
def dNil : DA := fun _ Q => Q []
def dCons (r : DE) (ra : DA) : DA := fun δ Q => r δ fun x => ra δ fun xs => Q (x :: xs)
theorem pad_nil : PAD X B [] dNil := pa_mono pa_nil fun σ H P q => by
  obtain ⟨H0, G, δ, Q, j, st, hr, k⟩ := q
  exact k [] [] G H hr (Gr.refl j) .nil
theorem pad_cons {ra : DA} (h : PD X B e r) (ha : PAD X B es ra) (hs : starEach (e :: es) X.env = (false, eval e X.env) :: starEach es X.env := by rfl) : PAD X B (e :: es) (dCons r ra) := pa_mono (pa_cons h ha hs) fun σ H P q => by
  obtain ⟨H0, G, δ, Q, j, st, hr, k⟩ := q
  refine ⟨H0, G, δ, _, j, st, hr, fun d v G2 H2 q2 g2 h2 => ?_⟩
  refine ⟨H0, G2, δ, _, g2.j, st.gr g2, q2, fun ds vs G3 H3 q3 g3 h3 => ?_⟩
  exact k _ _ G3 H3 q3 (g2.trans g3) (.cons (h2.mono g3.ex) h3)
theorem pd_one (h : PAD X B [e] (dCons r dNil)) : PAD X B [e] (dCons r dNil) := h

/-! displays -/
def dTup (ra : DA) : DE := fun δ Q => ra δ fun ds => match decide (ds.length ≤ 1000) with
  | true => Q (.tup ds)
  | false => False
def fLst (ra : DA) : DA := fun δ Q => ra δ fun ds => match decide (ds.length ≤ 1000) with
  | true => Q ds
  | false => False
theorem sz1000 {n : Nat} (h : n ≤ 1000) : n ≤ sizeLine := Nat.le_trans h (by decide)
theorem pd_tup {ra : DA} {k : Nat} (h : PAD X B es ra) : PD X B (.Tuple es k pos) (dTup ra) := pe_mono (pe_tup h) fun σ H P q => by
  obtain ⟨H0, G, δ, Q, j, st, hr, k⟩ := q
  refine ⟨H0, G, δ, _, j, st, hr, fun ds vs G2 H2 q2 g2 h2 => ?_⟩
  cases hz : decide (ds.length ≤ 1000) with
  | false => rw [hz] at q2; exact q2.elim
  | true =>
    rw [hz] at q2
    refine ⟨sz1000 (by rw [h2.len]; exact of_decide_eq_true hz), fun p hp => ?_⟩
    have g3 := Gr.new (o := .tup vs) g2.j hp
    exact k _ _ _ _ q2 (g2.trans g3) (.tup upd_same (h2.mono g3.ex))
theorem pf_lst {ra : DA} (h : PAD X B es ra) : PF X B (.List es pos) (fLst ra) := pe_mono (pe_lst h) fun σ H P q => by
  obtain ⟨H0, G, δ, Q, j, st, hr, k⟩ := q
  refine ⟨H0, G, δ, _, j, st, hr, fun ds vs G2 H2 q2 g2 h2 => ?_⟩
  cases hz : decide (ds.length ≤ 1000) with
  | false => rw [hz] at q2; exact q2.elim
  | true =>
    rw [hz] at q2
    refine ⟨sz1000 (by rw [h2.len]; exact of_decide_eq_true hz), fun p hp => ?_⟩
    have g3 := Gr.new0 (o := .lst vs) g2.j hp
    have hp0 : H p = none := by
      cases q : H p with
      | none => rfl
      | some o =>
        by_cases e : p = B.b
        · subst e; obtain ⟨o, ho⟩ := g2.j.at; rw [hp] at ho; cases ho
        · rw [g2.keep p o e q] at hp; cases hp
    exact k _ _ _ _ _ q2 (g2.trans g3) hp0 (fresh_back g2.j.ex hp) upd_same h2
/-- what was free behind was free ahead -/
theorem Gr.free {K : PySem.W.Frag} {G H G2 H2 : Hp} (g : Gr K B G H G2 H2) {p : Addr} (hp : H2 p = none) : H p = none := by
  cases q : H p with
  | none => rfl
  | some o =>
    by_cases e : p = B.b
    · subst e; obtain ⟨o, ho⟩ := g.j.at; rw [hp] at ho; cases ho
    · rw [g.keep p o e q] at hp; cases hp
theorem Gr.neB {K : PySem.W.Frag} {G H : Hp} (j : Jn K B G H) {p : Addr} (hp : H p = none) : p ≠ B.b := fun e => by
  subst e; obtain ⟨o, ho⟩ := j.at; rw [hp] at ho; cases ho
/-- a new list as data -/
def dF (ra : DA) : DE := fun δ Q => ra δ fun ds => Q (.lst ds)
theorem pd_f {ra : DA} (h : PF X B e ra) : PD X B e (dF ra) := pe_mono h fun σ H P q => by
  obtain ⟨H0, G, δ, Q, j, st, hr, k⟩ := q
  refine ⟨H0, G, δ, _, j, st, hr, fun ds p vs G2 H2 q2 g2 hp gp h2 hd => ?_⟩
  exact k _ _ _ _ q2 (g2.frz hp gp (Gr.neB j hp) h2) (.lst upd_same (hd.mono (Ex.new gp)))

/-! operators -/
abbrev O2 := D → D → (D → Prop) → Prop
abbrev O1 := D → (D → Prop) → Prop
def rLift (K : PySem.W.Frag) (B : Bx) (r : O2) : R2 := fun x y H P => ∃ (G : Hp) (dx dy : D) (Q : D → Prop), Jn K B G H ∧ Dat K B G x dx ∧ Dat K B G y dy ∧ r dx dy Q ∧ ∀ d v G2 H2, Q d → Gr K B G H G2 H2 → Dat K B G2 v d → P v H2
def rLift1 (K : PySem.W.Frag) (B : Bx) (r : O1) : V → Hp → VK → Prop := fun x H P => ∃ (G : Hp) (dx : D) (Q : D → Prop), Jn K B G H ∧ Dat K B G x dx ∧ r dx Q ∧ ∀ d v G2 H2, Q d → Gr K B G H G2 H2 → Dat K B G2 v d → P v H2
def dOp (o : O2) (ra rb : DE) : DE := fun δ Q => ra δ fun x => rb δ fun y => o x y Q
def dUn (o : O1) (ra : DE) : DE := fun δ Q => ra δ fun x => o x Q
theorem lift2 {K : PySem.W.Frag} {o : O2} {σ : L2.St} {H : Hp} {P : VK} (q : liftE K B (dOp o ra rb) σ H P) : tOp (rLift K B o) (liftE K B ra) (liftE K B rb) σ H P := by
  obtain ⟨H0, G, δ, Q, j, st, hr, k⟩ := q
  refine ⟨H0, G, δ, _, j, st, hr, fun d v G2 H2 q2 g2 h2 => ?_⟩
  refine ⟨H0, G2, δ, _, g2.j, st.gr g2, q2, fun e u G3 H3 q3 g3 h3 => ?_⟩
  exact ⟨G3, d, e, Q, g3.j, h2.mono g3.ex, h3, q3, fun d' v' G4 H4 q4 g4 h4 => k d' v' G4 H4 q4 ((g2.trans g3).trans g4) h4⟩
theorem pd_bin {op : Operator} {o : O2} (h : OpR X (binaryOp op) (rLift X.K B o)) (ha : PD X B a ra) (hb : PD X B b rb) : PD X B (.BinOp a op b pos) (dOp o ra rb) := pe_mono (pe_op h ha hb) fun _ _ _ q => lift2 q
theorem pd_cmp {op : CmpOp} {o : O2} (h : OpR X (compareOp op) (rLift X.K B o)) (ha : PD X B a ra) (hb : PD X B b rb) (hm : behindInMarks op b = false) : PD X B (.Compare a [op] [b] pos) (dOp o ra rb) := pe_mono (pe_cmpR h ha hb hm) fun _ _ _ q => lift2 q
theorem pd_ix {o : O2} (h : IxR X (rLift X.K B o)) (ha : PD X B a ra) (hb : PD X B b rb) (hs : PlainIx b := by intro _ _; rfl) : PD X B (.Subscript a b pos) (dOp o ra rb) := pe_mono (pe_ix h ha hb hs) fun _ _ _ q => lift2 q
theorem pd_un {op : UnaryOp} {o : O1} (h : UnR X (unaryOp op) (rLift1 X.K B o)) (ha : PD X B a ra) : PD X B (.UnaryOp op a pos) (dUn o ra) := pe_mono (pe_un h ha) fun σ H P q => by
  obtain ⟨H0, G, δ, Q, j, st, hr, k⟩ := q
  refine ⟨H0, G, δ, _, j, st, hr, fun d v G2 H2 q2 g2 h2 => ?_⟩
  exact ⟨G2, d, Q, g2.j, h2, q2, fun d' v' G4 H4 q4 g4 h4 => k d' v' G4 H4 q4 (g2.trans g4) h4⟩

/-! tests -/
def tBl (r : DE) : DT := fun δ Q => r δ fun x => match x with
  | .bl b => Q b
  | _ => False
def tAn (r u : DT) : DT := fun δ Q => r δ fun b => if b = true then u δ Q else Q false
def tOrr (r u : DT) : DT := fun δ Q => r δ fun b => if b = true then Q true else u δ Q
def tNt (r : DT) : DT := fun δ Q => r δ fun b => Q (!b)
theorem ptd_val (h : PD X B e r) (he : ∀ whole, isTrue e X.env whole = (do let v ← whole; standAt e.pos; holding [v] (truthy v)) := by intro _; rfl) : PTD X B e (tBl r) := pt_mono (pt_val h he) fun σ H P q => by
  obtain ⟨H0, G, δ, Q, j, st, hr, k⟩ := q
  refine ⟨H0, G, δ, _, j, st, hr, fun d v G2 H2 q2 g2 h2 => ?_⟩
  cases h2 with
  | bl b => exact ⟨b, rfl, k b G2 H2 q2 g2⟩
  | _ => exact q2.elim
theorem ptd_cmp {op : CmpOp} {o : O2} (h : OpR X (compareOp op) (rLift X.K B o)) (ha : PD X B a ra) (hb : PD X B b rb) (hm : behindInMarks op b = false) : PTD X B (.Compare a [op] [b] pos) (tBl (dOp o ra rb)) := pt_mono (pt_cmpR h ha hb hm) fun σ H P q => by
  obtain ⟨H0, G, δ, Q, j, st, hr, k⟩ := q
  refine lift2 ⟨H0, G, δ, _, j, st, hr, fun d v G2 H2 q2 g2 h2 => ?_⟩
  cases h2 with
  | bl b => exact ⟨b, rfl, k b G2 H2 q2 g2⟩
  | _ => exact q2.elim
theorem ptd_not {t : DT} (h : PTD X B a t) : PTD X B (.UnaryOp .Not a pos) (tNt t) := pt_mono (pt_not h) fun σ H P q => by
  obtain ⟨H0, G, δ, Q, j, st, hr, k⟩ := q
  exact ⟨H0, G, δ, _, j, st, hr, fun b G2 H2 q2 g2 => k _ G2 H2 q2 g2⟩
theorem pwd_and1 {t : DT} (h : PTD X B a t) : PWD X B (.BoolOp .And [a] pos) t := pw_and1 h
theorem pwd_or1 {t : DT} (h : PTD X B a t) : PWD X B (.BoolOp .Or [a] pos) t := pw_or1 h
theorem lift_an {K : PySem.W.Frag} {t u : DT} {σ : L2.St} {H : Hp} {P : Bool → Hp → Prop} (q : liftT K B (tAn t u) σ H P) : L2.tAnd (liftT K B t) (liftT K B u) σ H P := by
  obtain ⟨H0, G, δ, Q, j, st, hr, k⟩ := q
  refine ⟨H0, G, δ, _, j, st, hr, fun c G2 H2 q2 g2 => ?_⟩
  cases c with
  | true => exact ⟨H0, G2, δ, Q, g2.j, st.gr g2, q2, fun c G3 H3 q3 g3 => k c G3 H3 q3 (g2.trans g3)⟩
  | false => exact k false G2 H2 q2 g2
theorem lift_or {K : PySem.W.Frag} {t u : DT} {σ : L2.St} {H : Hp} {P : Bool → Hp → Prop} (q : liftT K B (tOrr t u) σ H P) : L2.tOr (liftT K B t) (liftT K B u) σ H P := by
  obtain ⟨H0, G, δ, Q, j, st, hr, k⟩ := q
  refine ⟨H0, G, δ, _, j, st, hr, fun c G2 H2 q2 g2 => ?_⟩
  cases c with
  | false => exact ⟨H0, G2, δ, Q, g2.j, st.gr g2, q2, fun c G3 H3 q3 g3 => k c G3 H3 q3 (g2.trans g3)⟩
  | true => exact k true G2 H2 q2 g2
theorem pwd_and {t u : DT} {rest : List Expr} (h : PTD X B a t) (hu : PWD X B (.BoolOp .And (b :: rest) pos) u) : PWD X B (.BoolOp .And (a :: b :: rest) pos) (tAn t u) := pw_mono (pw_and h hu) fun _ _ _ q => lift_an q
theorem pwd_or {t u : DT} {rest : List Expr} (h : PTD X B a t) (hu : PWD X B (.BoolOp .Or (b :: rest) pos) u) : PWD X B (.BoolOp .Or (a :: b :: rest) pos) (tOrr t u) := pw_mono (pw_or h hu) fun _ _ _ q => lift_or q
/-! the same as values -/
def dAn (ra rb : DE) : DE := fun δ Q => ra δ fun x => match x with
  | .bl c => if c = true then rb δ Q else Q (.bl false)
  | _ => False
def dOr (ra rb : DE) : DE := fun δ Q => ra δ fun x => match x with
  | .bl c => if c = true then Q (.bl true) else rb δ Q
  | _ => False
def dNt (ra : DE) : DE := fun δ Q => ra δ fun x => match x with
  | .bl c => Q (.bl (!c))
  | _ => False
theorem pd_1 {op} (h : PD X B a ra) : PD X B (.BoolOp op [a] pos) ra := pe_one h
theorem pd_and {rest : List Expr} (ha : PD X B a ra) (hb : PD X B (.BoolOp .And (b :: rest) pos) rb) : PD X B (.BoolOp .And (a :: b :: rest) pos) (dAn ra rb) := pe_mono (pe_and ha hb) fun σ H P q => by
  obtain ⟨H0, G, δ, Q, j, st, hr, k⟩ := q
  refine ⟨H0, G, δ, _, j, st, hr, fun d v G2 H2 q2 g2 h2 => ?_⟩
  cases h2 with
  | bl c =>
    refine ⟨c, rfl, ?_⟩
    cases c with
    | true => exact ⟨H0, G2, δ, Q, g2.j, st.gr g2, q2, fun d v G3 H3 q3 g3 h3 => k d v G3 H3 q3 (g2.trans g3) h3⟩
    | false => exact k _ _ G2 H2 q2 g2 (.bl false)
  | _ => exact q2.elim
theorem pd_or {rest : List Expr} (ha : PD X B a ra) (hb : PD X B (.BoolOp .Or (b :: rest) pos) rb) : PD X B (.BoolOp .Or (a :: b :: rest) pos) (dOr ra rb) := pe_mono (pe_or ha hb) fun σ H P q => by
  obtain ⟨H0, G, δ, Q, j, st, hr, k⟩ := q
  refine ⟨H0, G, δ, _, j, st, hr, fun d v G2 H2 q2 g2 h2 => ?_⟩
  cases h2 with
  | bl c =>
    refine ⟨c, rfl, ?_⟩
    cases c with
    | false => exact ⟨H0, G2, δ, Q, g2.j, st.gr g2, q2, fun d v G3 H3 q3 g3 h3 => k d v G3 H3 q3 (g2.trans g3) h3⟩
    | true => exact k _ _ G2 H2 q2 g2 (.bl true)
  | _ => exact q2.elim
theorem pd_not (ha : PD X B a ra) : PD X B (.UnaryOp .Not a pos) (dNt ra) := pe_mono (pe_not ha) fun σ H P q => by
  obtain ⟨H0, G, δ, Q, j, st, hr, k⟩ := q
  refine ⟨H0, G, δ, _, j, st, hr, fun d v G2 H2 q2 g2 h2 => ?_⟩
  cases h2 with
  | bl c => exact ⟨c, rfl, k _ _ G2 H2 q2 g2 (.bl _)⟩
  | _ => exact q2.elim
def dIfE (t : DT) (ra rb : DE) : DE := fun δ Q => t δ fun b => if b = true then ra δ Q else rb δ Q
theorem pd_ifE {c : Expr} {t : DT} (hc : PTD X B c t) (ha : PD X B a ra) (hb : PD X B b rb) : PD X B (.IfExp c a b pos) (dIfE t ra rb) := pe_mono (pe_ifExp hc ha hb) fun σ H P q => by
  obtain ⟨H0, G, δ, Q, j, st, hr, k⟩ := q
  refine ⟨H0, G, δ, _, j, st, hr, fun c G2 H2 q2 g2 => ?_⟩
  cases c with
  | true => exact ⟨H0, G2, δ, Q, g2.j, st.gr g2, q2, fun d v G3 H3 q3 g3 h3 => k d v G3 H3 q3 (g2.trans g3) h3⟩
  | false => exact ⟨H0, G2, δ, Q, g2.j, st.gr g2, q2, fun d v G3 H3 q3 g3 h3 => k d v G3 H3 q3 (g2.trans g3) h3⟩

/-! calls -/
abbrev FD := List D → (D → Prop) → Prop
def cLift (K : PySem.W.Frag) (B : Bx) (S : FD) : List V → Hp → VK → Prop := fun vs H P => ∃ (G : Hp) (ds : List D) (Q : D → Prop), Jn K B G H ∧ Dats K B G vs ds ∧ S ds Q ∧ ∀ d v G2 H2, Q d → Gr K B G H G2 H2 → Dat K B G2 v d → P v H2
def spD (K : PySem.W.Frag) (B : Bx) (S : FD) : Sp := fun vs H P _ => cLift K B S vs H P
def dCall (S : FD) (ra : DA) : DE := fun δ Q => ra δ fun ds => S ds Q
theorem liftC {K : PySem.W.Frag} {S : FD} {ra : DA} {σ : L2.St} {H : Hp} {P : VK} (q : liftE K B (dCall S ra) σ H P) : liftA K B ra σ H fun vs H1 => cLift K B S vs H1 P := by
  obtain ⟨H0, G, δ, Q, j, st, hr, k⟩ := q
  refine ⟨H0, G, δ, _, j, st, hr, fun ds vs G2 H2 q2 g2 h2 => ?_⟩
  exact ⟨G2, ds, Q, g2.j, h2, q2, fun d v G3 H3 q3 g3 h3 => k d v G3 H3 q3 (g2.trans g3) h3⟩
theorem pd_call {CX : CXT} {k : Nat} {f : Addr} {fd : FuncData} {ps : List Str} {S : FD} {x : Str} {E : XK} {ra : DA} {fp : Pos} (F : FnOk X.prog X.w X.K X.mg X.base CX k f fd ps (spD X.K B S)) (hr : Room k X.A) (hg : Gl X x) (hm : X.mg x = some (.ref f)) (hk : PySem.W.keepIn X.K (.ref f) = true)
    (hb : Binds X.K fd ps []) (hx : Passes CX X E) (ha : PAD X B (e :: es) ra) (hd : (x == ("__debug__" : Str)) = false := by decide) (he : starEach (e :: es) X.env = (false, eval e X.env) :: starEach es X.env := by rfl) (hpl : (backTo pos (starEach es X.env)).any (·.1) = false := by rfl) : PD X B (.Call (.Name x fp) (e :: es) [] pos) (dCall S ra) :=
  pe_mono (pe_call F hr hg hm hk hb .nil hx ha hd he hpl) fun σ H P q => by
    have h := liftC q
    obtain ⟨H0, G, δ, Q, j, st, h1, k⟩ := h
    exact ⟨H0, G, δ, Q, j, st, h1, fun ds vs G2 H2 q2 g2 h2 => by
      show spD X.K B S (vs ++ []) H2 P E
      rw [List.append_nil]
      exact k ds vs G2 H2 q2 g2 h2⟩
theorem pd_callB {id : String} {S : FD} {x : Str} {ra : DA} {fp : Pos} (hc : CallR X (.builtin id) (cLift X.K B S)) (hg : Gl X x) (hm : X.mg x = none) (hv : bootBuiltins x = some (.builtin id)) (ha : PAD X B (e :: es) ra) (hn : x ≠ "__name__" := by decide) (hdb : (x == ("__debug__" : Str)) = false := by decide) (he : starEach (e :: es) X.env = (false, eval e X.env) :: starEach es X.env := by rfl) (hpl : (backTo pos (starEach es X.env)).any (·.1) = false := by rfl) :
    PD X B (.Call (.Name x fp) (e :: es) [] pos) (dCall S ra) := pe_mono (pe_callB hc hg hm hv ha hn hdb he hpl) fun _ _ _ q => liftC q
theorem pd_callTy {T : String} {S : FD} {x : Str} {ra : DA} {fp : Pos} (hc : CallR X (.type T) (cLift X.K B S)) (hg : Gl X x) (hm : X.mg x = none) (hv : bootBuiltins x = some (.type T)) (ha : PAD X B (e :: es) ra) (hn : x ≠ "__name__" := by decide) (hdb : (x == ("__debug__" : Str)) = false := by decide) (he : starEach (e :: es) X.env = (false, eval e X.env) :: starEach es X.env := by rfl) (hpl : (backTo pos (starEach es X.env)).any (·.1) = false := by rfl) :
    PD X B (.Call (.Name x fp) (e :: es) [] pos) (dCall S ra) := pe_mono (pe_callTy hc hg hm hv ha hn hdb he hpl) fun _ _ _ q => liftC q
end

/-! statements -/
section
variable {X : Cx} {B : Bx} {e : Expr} {st : Stmt} {rest : List Stmt} {r : DE} {t u : DTS} {pos : Pos}
def dNext : DTS := fun W δ => W.nx δ
def dSeq (t u : DTS) : DTS := fun W δ => t { W with nx := u W } δ
theorem psd_nil : PSsD X B [] dNext := pss_mono pss_nil fun E σ H q => by
  obtain ⟨G0, H0, G, δ, W, g, s, h, k⟩ := q
  exact k.nx σ δ G H h g (Ex.refl _) s
theorem psd_cons (h1 : PSD X B st t) (h2 : PSsD X B rest u) : PSsD X B (st :: rest) (dSeq t u) := pss_mono (pss_cons h1 h2) fun E σ H q => by
  obtain ⟨G0, H0, G, δ, W, g, s, h, k⟩ := q
  exact ⟨G0, H0, G, δ, _, g, s, h, ⟨fun σ' δ' G2 H2 q2 g2 e2 s2 => ⟨G0, H0, G2, δ', W, g2, s2, q2, k.up e2⟩, k.bk, k.ct, k.rt, k.ro⟩⟩
theorem psd_one (h1 : PSD X B st t) : PSsD X B [st] t := pss_mono (pss_one h1) fun _ _ _ q => q
/-- from an expression at a statement's place -/
theorem at_stmt {K : PySem.W.Frag} {G0 H0 G H : Hp} {σ : L2.St} {δ : DS} {P : VK} {Q : D → Prop} (g : Gr K B G0 H0 G H) (s : StOk K B H0 G H σ δ) (h : r δ Q)
    (k : ∀ d v G2 H2, Q d → Gr K B G0 H0 G2 H2 → Ex G G2 → StOk K B H0 G2 H2 σ δ → Dat K B G2 v d → P v H2) : liftE K B r σ H P :=
  ⟨H0, G, δ, Q, g.j, s, h, fun d v G2 H2 q2 g2 h2 => k d v G2 H2 q2 (g.trans g2) g2.ex (s.gr g2) h2⟩
def dRet (r : DE) : DTS := fun W δ => r δ W.rt
theorem psd_ret (h : PD X B e r) : PSD X B (.Return (some e) pos) (dRet r) := ps_mono (ps_ret h) fun E σ H q => by
  obtain ⟨G0, H0, G, δ, W, g, s, h, k⟩ := q
  exact at_stmt g s h fun d v G2 H2 q2 g2 e2 _ h2 => k.rt d v G2 H2 q2 g2 e2 h2
def dRetN : DTS := fun W _ => W.rt .non
theorem psd_retN : PSD X B (.Return none pos) dRetN := ps_mono ps_retN fun E σ H q => by
  obtain ⟨G0, H0, G, δ, W, g, s, h, k⟩ := q
  exact k.rt .non .non G H h g (Ex.refl _) .non
def dDrop (r : DE) : DTS := fun W δ => r δ fun _ => W.nx δ
theorem psd_expr (h : PD X B e r) (hs : swapsWith e none pos.line X.env = pure false := by rfl) : PSD X B (.Expr e pos) (dDrop r) := ps_mono (ps_expr h hs) fun E σ H q => by
  obtain ⟨G0, H0, G, δ, W, g, s, h, k⟩ := q
  exact at_stmt g s h fun d v G2 H2 q2 g2 e2 s2 h2 => k.nx σ δ G2 H2 q2 g2 e2 s2
def dNever : DTS := fun _ _ => False
theorem psd_never : PSD X B st dNever := ps_mono ps_never fun E σ H q => by
  obtain ⟨G0, H0, G, δ, W, g, s, h, k⟩ := q
  exact h
theorem psd_pass : PSD X B (.Pass pos) dNext := ps_mono ps_pass fun E σ H q => by
  obtain ⟨G0, H0, G, δ, W, g, s, h, k⟩ := q
  exact k.nx σ δ G H h g (Ex.refl _) s
def dBrk : DTS := fun W δ => W.bk δ
theorem psd_break : PSD X B (.Break pos) dBrk := ps_mono ps_break fun E σ H q => by
  obtain ⟨G0, H0, G, δ, W, g, s, h, k⟩ := q
  exact k.bk σ δ G H h g (Ex.refl _) s
def dCnt : DTS := fun W δ => W.ct δ
theorem psd_continue : PSD X B (.Continue pos) dCnt := ps_mono ps_continue fun E σ H q => by
  obtain ⟨G0, H0, G, δ, W, g, s, h, k⟩ := q
  exact k.ct σ δ G H h g (Ex.refl _) s
def dIfS (c : DT) (t u : DTS) : DTS := fun W δ => c δ fun b => if b = true then t W δ else u W δ
theorem psd_if {c : Expr} {a b : List Stmt} {tc : DT} (hc : PTD X B c tc) (ha : PSsD X B a t) (hb : PSsD X B b u) : PSD X B (.If c a b pos) (dIfS tc t u) := ps_mono (ps_if hc ha hb) fun E σ H q => by
  obtain ⟨G0, H0, G, δ, W, g, s, h, k⟩ := q
  refine ⟨H0, G, δ, _, g.j, s, h, fun c G2 H2 q2 g2 => ?_⟩
  cases c with
  | true => exact ⟨G0, H0, G2, δ, W, g.trans g2, s.gr g2, q2, k.up g2.ex⟩
  | false => exact ⟨G0, H0, G2, δ, W, g.trans g2, s.gr g2, q2, k.up g2.ex⟩
/-! targets -/
def gN (i : Nat) : DG := fun d δ Q => Q (δ.set i (some (.sh d)))
theorem pgd_name {i : Nat} {x : Str} (hN : X.N.Nodup) (hi : X.N[i]? = some x) (hx : Loc X.env.scope x) (hf : X.fn x = true ∨ X.env.scope.names.lookup x = some .local := by first | exact .inl rfl | exact .inr rfl | assumption) : PGD X B (.Name x pos) [i] (gN i) :=
  pg_mono (pg_name hN hi hx hf) fun v σ H R q => by
    obtain ⟨H0, G, δ, d, Q, j, s, hd, h, k⟩ := q
    exact k _ _ h (s.set hd) ⟨List.length_set .., fun j hj => List.getElem?_set_ne (fun z => hj (by simp [z]))⟩
def gsNil : DGs := fun ds δ Q => match ds with
  | [] => Q δ
  | _ => False
def gsCons (g : DG) (gs : DGs) : DGs := fun ds δ Q => match ds with
  | d :: ds => g d δ fun δ' => gs ds δ' Q
  | [] => False
def dAsg (r : DE) (g : DG) : DTS := fun W δ => r δ fun d => g d δ W.nx
def dSet (i : Nat) (r : DE) : DTS := fun W δ => r δ fun d => W.nx (δ.set i (some (.sh d)))
theorem psd_set {i : Nat} {x : Str} {pos' : Pos} (hN : X.N.Nodup) (hi : X.N[i]? = some x) (hx : Loc X.env.scope x) (he : PD X B e r) (hs : swapsWith e (some (.Name x pos')) pos.line X.env = pure false := by rfl) (hf : X.fn x = true ∨ X.env.scope.names.lookup x = some .local := by first | exact .inl rfl | exact .inr rfl | assumption) :
    PSD X B (.Assign [.Name x pos'] e pos) (dSet i r) := ps_mono (ps_set hN hi hx he hs hf) fun E σ H q => by
  obtain ⟨G0, H0, G, δ, W, g, s, h, k⟩ := q
  exact at_stmt g s h fun d v G2 H2 q2 g2 e2 s2 h2 => k.nx _ _ G2 H2 q2 g2 e2 (s2.set h2)
end
end DL
namespace DL
open PySem PySem.Spec PyProof.Rows L2 Evl

section
variable {X : Cx} {B : Bx} {e : Expr} {es : List Expr} {st : Stmt} {rest : List Stmt} {r : DE} {t u : DTS} {pos : Pos}
/-! targets that are tuples -/
theorem pgsd_nil : PGsD X B [] [] gsNil := pgs_mono pgs_nil fun v σ H R q => by
  obtain ⟨H0, G, δ, ds, Q, j, s, hd, h, k⟩ := q
  cases hd with
  | nil => exact ⟨rfl, k _ _ h s (Upd.refl _ _)⟩
  | cons _ _ => exact h.elim
theorem pgsd_cons {g : DG} {gs : DGs} {is js : List Nat} (h1 : PGD X B e is g) (h2 : PGsD X B es js gs) (hs : (assignEach (e :: es) X.env).map (·.2) = assign e X.env :: (assignEach es X.env).map (·.2) := by rfl) : PGsD X B (e :: es) (is ++ js) (gsCons g gs) := pgs_mono (pgs_cons h1 h2 hs) fun v σ H R q => by
  obtain ⟨H0, G, δ, ds, Q, j, s, hd, h, k⟩ := q
  cases hd with
  | nil => exact h.elim
  | cons h3 h4 =>
    refine ⟨_, _, rfl, H0, G, δ, _, _, j, s, h3, h, fun σ' δ' q2 s2 u2 => ?_⟩
    exact ⟨H0, G, δ', _, Q, j, s2, h4, q2, fun σ3 δ3 q3 s3 u3 => k σ3 δ3 q3 s3 (u2.trans u3)⟩
def gT (n : Nat) (gs : DGs) : DG := fun d δ Q => match d with
  | .tup ds => match decide (ds.length = n) with
    | true => gs ds δ Q
    | false => False
  | _ => False
theorem pgd_tup {k n : Nat} {gs : DGs} {is : List Nat} (hc : X.calm = true) (h : PGsD X B es is gs) (hn : (assignEach es X.env).length = n := by rfl) (hst : (assignEach es X.env).findIdx? (·.1) = none := by rfl) : PGD X B (.Tuple es k pos) is (gT n gs) := pg_mono (pg_tup hc h hn hst) fun v σ H R q => by
  obtain ⟨H0, G, δ, d, Q, j, s, hd, h, k⟩ := q
  cases hd with
  | tup h3 h4 =>
    rename_i a xs ds
    have h : (match decide (ds.length = n) with | true => gs ds δ Q | false => False) := h
    cases hz : decide (ds.length = n) with
    | false => rw [hz] at h; exact h.elim
    | true =>
      rw [hz] at h
      exact ⟨a, xs, rfl, tx j.ex h3, h4.len.trans (of_decide_eq_true hz), H0, G, δ, ds, Q, j, s, h4, h, k⟩
  | _ => exact h.elim
theorem psd_asg {tg : Expr} {g : DG} {is : List Nat} (he : PD X B e r) (hg : PGD X B tg is g) (hs : swapsWithSole [tg] e pos.line X.env = pure false := by rfl) (hw : swappedStores [tg] e X.env = pure none := by rfl) (h1 : (assignEach [tg] X.env).map (·.2) = [assign tg X.env] := by rfl) :
    PSD X B (.Assign [tg] e pos) (dAsg r g) := ps_mono (ps_asg he hg hs hw h1) fun E σ H q => by
  obtain ⟨G0, H0, G, δ, W, g, s, h, k⟩ := q
  refine at_stmt g s h fun d v G2 H2 q2 g2 e2 s2 h2 => ?_
  exact ⟨H0, G2, δ, d, _, g2.j, s2, h2, q2, fun σ' δ' q3 s3 _ => k.nx σ' δ' G2 H2 q3 g2 e2 s3⟩
/-- a, b = x, y -/
def dPar (i j : Nat) (ra : DA) : DTS := fun W δ => ra δ fun ds => match ds with
  | [d, e] => W.nx ((δ.set i (some (.sh d))).set j (some (.sh e)))
  | _ => False
theorem psd_par {i j : Nat} {x y : Str} {a b : Expr} {ra : DA} {px py pt : Pos} {kt k2 pt2} (hc : X.calm = true) (hN : X.N.Nodup) (hi : X.N[i]? = some x) (hj : X.N[j]? = some y) (hij : i ≠ j)
    (hx : X.env.scope.names.lookup x = some .local) (hy : X.env.scope.names.lookup y = some .local) (ha : PAD X B [a, b] ra)
    (hw : swappedStores [.Tuple [.Name x px, .Name y py] kt pt] (.Tuple [a, b] k2 pt2) X.env = pure (some [x, y]))
    (hs : swapsWithSole [.Tuple [.Name x px, .Name y py] kt pt] (.Tuple [a, b] k2 pt2) pos.line X.env = pure false := by rfl) :
    PSD X B (.Assign [.Tuple [.Name x px, .Name y py] kt pt] (.Tuple [a, b] k2 pt2) pos) (dPar i j ra) := ps_mono (ps_par hc hN hi hj hij hx hy ha hw hs) fun E σ H q => by
  obtain ⟨G0, H0, G, δ, W, g, s, h, k⟩ := q
  refine ⟨H0, G, δ, _, g.j, s, h, fun ds vs G2 H2 q2 g2 h2 => ?_⟩
  cases h2 with
  | nil => exact q2.elim
  | cons h3 h4 =>
    cases h4 with
    | nil => exact q2.elim
    | cons h5 h6 =>
      cases h6 with
      | nil => exact ⟨_, _, rfl, k.nx _ _ G2 H2 q2 (g.trans g2) g2.ex (((s.gr g2).set h3).set h5)⟩
      | cons _ _ => exact q2.elim

/-! what is walked -/
structure ItD (K : PySem.W.Frag) (B : Bx) (J : It) (G : Hp) (ds : List D) : Prop where
  go : ∀ i G1 H, Ex G G1 → Jn K B G1 H → i < ds.length → J.go i H
  yld : ∀ (i : Nat) G1 H x H' d, Ex G G1 → Jn K B G1 H → J.yld i H x H' → ds[i]? = some d → ∃ G2, Gr K B G1 H G2 H' ∧ Dat K B G2 x d
  stop : ∀ i G1 H, Ex G G1 → Jn K B G1 H → ds.length ≤ i → J.stop i H
def liftI (K : PySem.W.Frag) (B : Bx) (r : DA) : TI := fun σ H R => ∃ (H0 G : Hp) (δ : DS) (Q : List D → Prop), Jn K B G H ∧ StOk K B H0 G H σ δ ∧ r δ Q ∧ ∀ ds J G2 H2, Q ds → Gr K B G H G2 H2 → ItD K B J G2 ds → R J H2
abbrev PID (X : Cx) (B : Bx) (tg e : Expr) (r : DA) : Prop := PI X tg e (liftI X.K B r)
def chars (x : Str) : List D := x.cps.toList.map fun c => .str ⟨#[c]⟩
def iSeq (r : DE) : DA := fun δ Q => r δ fun d => match d with
  | .lst xs => Q xs
  | .tup xs => Q xs
  | .str x => Q (chars x)
  | _ => False
theorem itd_list {K : PySem.W.Frag} {G : Hp} {a : Addr} {xs : List V} {ds : List D} (h : G a = some (.lst xs)) (hd : Dats K B G xs ds) : ItD K B (Itl K a) G ds where
  go := fun i G1 H e j hi => ⟨xs, xs[i]'(by rw [hd.len]; exact hi), sq_of (j.ex _ _ (e _ _ h)), by simp⟩
  yld := fun i G1 H x H' d e j y hi => by
    obtain ⟨rfl, y⟩ := y
    have := y xs (sq_of (j.ex _ _ (e _ _ h)))
    obtain ⟨u, h1, h2⟩ := hd.get hi
    rw [this] at h1
    cases h1
    exact ⟨G1, Gr.refl j, h2.mono e⟩
  stop := fun i G1 H e j hi => ⟨xs, sq_of (j.ex _ _ (e _ _ h)), by rw [hd.len]; exact hi⟩
theorem itd_tup {K : PySem.W.Frag} {G : Hp} {a : Addr} {xs : List V} {ds : List D} (h : SqT K G a xs) (hd : Dats K B G xs ds) : ItD K B (Itt K a) G ds where
  go := fun i G1 H e j hi => ⟨xs, xs[i]'(by rw [hd.len]; exact hi), ex_t (e.trans j.ex) h, by simp⟩
  yld := fun i G1 H x H' d e j y hi => by
    obtain ⟨rfl, y⟩ := y
    have := y xs (ex_t (e.trans j.ex) h)
    obtain ⟨u, h1, h2⟩ := hd.get hi
    rw [this] at h1
    cases h1
    exact ⟨G1, Gr.refl j, h2.mono e⟩
  stop := fun i G1 H e j hi => ⟨xs, ex_t (e.trans j.ex) h, by rw [hd.len]; exact hi⟩
theorem itd_str {K : PySem.W.Frag} {G : Hp} {x : Str} : ItD K B (Its x) G (chars x) where
  go := fun i G1 H e j hi => by
    have : (chars x).length = x.cps.size := by simp [chars]
    show i < x.cps.size
    omega
  yld := fun i G1 H v H' d e j y hi => by
    obtain ⟨rfl, c, h1, h2⟩ := y
    subst h2
    have : d = .str ⟨#[c]⟩ := by
      unfold chars at hi
      rw [List.getElem?_map, Array.getElem?_toList, h1] at hi
      exact (Option.some.inj hi).symm
    subst this
    exact ⟨G1, Gr.refl j, .str _⟩
  stop := fun i G1 H e j hi => by
    have : (chars x).length = x.cps.size := by simp [chars]
    show x.cps.size ≤ i
    omega
theorem pid_seq {tg : Expr} (he : PD X B e r) : PID X B tg e (iSeq r) := by
  refine ⟨fun pins s σ H R I h => ?_⟩
  obtain ⟨H0, G, δ, Q, j, st, hr, k⟩ := h
  refine thn (he.run pins s σ H (fun x H1 => ∃ G2 d, (match d with | D.lst xs => Q xs | D.tup xs => Q xs | D.str x => Q (chars x) | _ => False) ∧ Gr X.K B G H G2 H1 ∧ Dat X.K B G2 x d) I ⟨H0, G, δ, _, j, st, hr, fun d v G2 H2 q2 g2 h2 => ⟨G2, d, q2, g2, h2⟩⟩) fun v s1 ⟨x, H1, I1, r1, q1⟩ => ?_
  obtain ⟨G2, d, q2, g2, h2⟩ := q1
  cases h2 with
  | @lst a xs ds h3 h4 =>
    cases r1
    obtain ⟨its, rv, p, hz⟩ := I1.list (sq_of (g2.j.ex _ _ h3))
    exact wpAny_pyIter_list p.isList (pi_one (tk := s1.toks) I1 _ (turn_list a _) ⟨_, Heap.get?_push_size _ rfl, rfl, rfl⟩ (k ds _ G2 H1 q2 g2 (itd_list h3 h4)))
  | @tup a xs ds h3 h4 =>
    cases r1
    obtain ⟨its, rv, p, hz⟩ := I1.tuple (tx g2.j.ex h3)
    exact wpAny_pyIter_tuple (show s1.heap.IsTuple a its.toArray from p) (pi_one (tk := s1.toks) I1 _ (turn_tuple a _) ⟨_, Heap.get?_push_size _ rfl, rfl, rfl⟩ (k ds _ G2 H1 q2 g2 (itd_tup (st_of h3) h4)))
  | str x =>
    obtain ⟨t, rfl⟩ := r1
    cases ha : x.cps.all (· < 128)
    · exact wpAny_pyIter_wide ha (pi_one (tk := s1.toks) I1 _ (turn_str _ x t "str_iterator" (.inr rfl)) ⟨_, Heap.get?_push_size _ rfl, rfl, rfl⟩ (k _ _ G2 H1 q2 g2 itd_str))
    · exact wpAny_pyIter_ascii ha (pi_one (tk := s1.toks) I1 _ (turn_str _ x t "str_ascii_iterator" (.inl rfl)) ⟨_, Heap.get?_push_size _ rfl, rfl, rfl⟩ (k _ _ G2 H1 q2 g2 itd_str))
  | _ => exact q2.elim
/-! ranges -/
def ups (lo : Int) (n : Nat) : List D := (List.range n).map fun (i : Nat) => .int (lo + (i : Int))
theorem itd_range {K : PySem.W.Frag} {G : Hp} {lo : Int} {n : Nat} : ItD K B (Itr lo n) G (ups lo n) where
  go := fun i G1 H e j hi => by
    have : (ups lo n).length = n := by simp [ups]
    show i < n
    omega
  yld := fun i G1 H v H' d e j y hi => by
    obtain ⟨rfl, rfl⟩ := y
    have hl : (ups lo n).length = n := by simp [ups]
    have hi' : i < n := by
      have := (List.getElem?_eq_some_iff.mp hi).1
      omega
    unfold ups at hi
    rw [List.getElem?_map, List.getElem?_range hi'] at hi
    cases hi
    exact ⟨G1, Gr.refl j, .int _⟩
  stop := fun i G1 H e j hi => by
    have : (ups lo n).length = n := by simp [ups]
    show n ≤ i
    omega
def iR1 (ra : DA) : DA := fun δ Q => ra δ fun ds => match ds with
  | [.int n] => (-(2 ^ 62) ≤ n ∧ n < 2 ^ 62) ∧ Q (ups 0 n.toNat)
  | _ => False
def iR2 (ra : DA) : DA := fun δ Q => ra δ fun ds => match ds with
  | [.int i, .int j] => (-(2 ^ 62) ≤ i ∧ i < 2 ^ 62 ∧ -(2 ^ 62) ≤ j ∧ j < 2 ^ 62) ∧ Q (ups i (j - i).toNat)
  | _ => False
theorem pid_r1 {tg a : Expr} {ra : DA} {p : Pos} (hg : Gl X "range") (hm : X.mg "range" = none) (ha : PAD X B [a] ra) (hs : starEach [a] X.env = [(false, eval a X.env)] := by rfl) : PID X B tg (.Call (.Name "range" p) [a] [] pos) (iR1 ra) :=
  ⟨fun pins s σ H R I h => (pi_range1 (tg := tg) hg hm ha hs).run pins s σ H R I (by
    obtain ⟨H0, G, δ, Q, j, st, hr, k⟩ := h
    refine ⟨H0, G, δ, _, j, st, hr, fun ds vs G2 H2 q2 g2 h2 => ?_⟩
    cases h2 with
    | nil => exact q2.elim
    | cons h3 h4 =>
      cases h3 with
      | int n =>
        cases h4 with
        | nil => exact ⟨n, rfl, q2.1.1, q2.1.2, k _ _ G2 H2 q2.2 g2 itd_range⟩
        | cons _ _ => exact q2.elim
      | _ => exact q2.elim)⟩
theorem pid_r2 {tg a b : Expr} {ra : DA} {p : Pos} (hg : Gl X "range") (hm : X.mg "range" = none) (ha : PAD X B [a, b] ra) (hs : starEach [a, b] X.env = [(false, eval a X.env), (false, eval b X.env)] := by rfl) (hs2 : starEach [b] X.env = [(false, eval b X.env)] := by rfl) : PID X B tg (.Call (.Name "range" p) [a, b] [] pos) (iR2 ra) :=
  ⟨fun pins s σ H R I h => (pi_range2 (tg := tg) hg hm ha hs hs2).run pins s σ H R I (by
    obtain ⟨H0, G, δ, Q, j, st, hr, k⟩ := h
    refine ⟨H0, G, δ, _, j, st, hr, fun ds vs G2 H2 q2 g2 h2 => ?_⟩
    cases h2 with
    | nil => exact q2.elim
    | cons h3 h4 =>
      cases h3 with
      | int n =>
        cases h4 with
        | nil => exact q2.elim
        | cons h5 h6 =>
          cases h5 with
          | int m =>
            cases h6 with
            | nil => exact ⟨n, m, rfl, q2.1, k _ _ G2 H2 q2.2 g2 itd_range⟩
            | cons _ _ => exact q2.elim
          | _ => exact q2.elim
      | _ => exact q2.elim)⟩

/-! for -/
def forD (g : DG) (tb : DTS) (W : DEnds) : List D → DS → Prop
  | [], δ => W.nx δ
  | d :: ds, δ => g d δ fun δ' => tb { W with nx := forD g tb W ds, ct := forD g tb W ds, bk := W.nx } δ'
def dFor (ri : DA) (g : DG) (tb : DTS) : DTS := fun W δ => ri δ fun ds => forD g tb W ds δ
theorem psd_for {tg iter : Expr} {body : List Stmt} {ri : DA} {g : DG} {is : List Nat} {tb : DTS} (hp : PassesOwn (model X.prog X.w) X.A X.env X.xe) (hc : X.calm = true) (hi : PID X B tg iter ri) (hg : PGD X B tg is g) (hb : PSsD X B body tb)
    (hs : ∀ x, foldedSetIterable iter X.env x = pure x := by intro _; rfl) : PSD X B (.For tg iter body [] pos) (dFor ri g tb) := ps_mono (ps_for hp hc hi hg hb hs) fun E σ H q => by
  obtain ⟨G0, H0, G, δ, W, g0, s, h, k⟩ := q
  refine ⟨H0, G, δ, _, g0.j, s, h, fun ds J G2 H2 q2 g2 it => ?_⟩
  refine ⟨fun i m σ H => i + m = ds.length ∧ ∃ G' δ', Ex G2 G' ∧ Gr X.K B G0 H0 G' H ∧ StOk X.K B H0 G' H σ δ' ∧ forD g tb W (ds.drop i) δ', ⟨ds.length, by omega, G2, δ, Ex.refl _, g0.trans g2, s.gr g2, q2⟩, fun i m σ H hw => ?_⟩
  obtain ⟨em, G', δ', ex, gr, st, hf⟩ := hw
  by_cases hlt : i < ds.length
  · refine .inr ⟨it.go i G' H ex gr.j hlt, fun σ1 H1 => ∃ G3 δ3, Ex G2 G3 ∧ Gr X.K B G0 H0 G3 H1 ∧ StOk X.K B H0 G3 H1 σ1 δ3 ∧ forD g tb W (ds.drop (i + 1)) δ3, fun σ1 H1 hn => ⟨m - 1, by omega, by omega, hn⟩, fun x H1 hy => ?_⟩
    have hd : ds[i]? = some ds[i] := List.getElem?_eq_getElem hlt
    obtain ⟨G3, g3, hx⟩ := it.yld i G' H x H1 _ ex gr.j hy hd
    rw [List.drop_eq_getElem_cons hlt] at hf
    refine ⟨H0, G3, δ', ds[i], _, g3.j, st.gr g3, hx, hf, fun σ2 δ2 q3 s3 _ => ?_⟩
    refine ⟨G0, H0, G3, δ2, _, gr.trans g3, s3, q3, ⟨?_, ?_, ?_, ?_, ?_⟩⟩
    · exact fun σ4 δ4 G4 H4 q4 g4 e4 s4 => ⟨G4, δ4, (ex.trans g3.ex).trans e4, g4, s4, q4⟩
    · exact fun σ4 δ4 G4 H4 q4 g4 e4 s4 => k.nx _ _ _ _ q4 g4 (g2.ex.trans ((ex.trans g3.ex).trans e4)) s4
    · exact fun σ4 δ4 G4 H4 q4 g4 e4 s4 => ⟨G4, δ4, (ex.trans g3.ex).trans e4, g4, s4, q4⟩
    · exact fun d v G4 H4 q4 g4 e4 h4 => k.rt _ _ _ _ q4 g4 (g2.ex.trans ((ex.trans g3.ex).trans e4)) h4
    · exact fun o v f G4 H4 q4 g4 e4 h4 => k.ro _ _ _ _ _ q4 g4 (g2.ex.trans ((ex.trans g3.ex).trans e4)) h4
  · have e : i = ds.length := by omega
    subst e
    rw [List.drop_length] at hf
    exact .inl ⟨it.stop _ G' H ex gr.j (Nat.le_refl _), k.nx _ _ _ _ hf gr (g2.ex.trans ex) st⟩
end
end DL
namespace DL
open PySem PySem.Spec PyProof.Rows L2 Evl

/-! list comprehensions -/
def wipeD (δ : DS) : List Nat → DS
  | [] => δ
  | v :: vs => (wipeD δ vs).set v none
theorem StOk.wipe {K : PySem.W.Frag} {B : Bx} {H0 G H : Hp} {σ : L2.St} {δ : DS} (x : StOk K B H0 G H σ δ) : ∀ vs : List Nat, StOk K B H0 G H (L2.wipe σ vs) (wipeD δ vs)
  | [] => x
  | _ :: vs => (StOk.wipe x vs).forget
def lcD (g : DG) (tt : DT) (te : DE) (δ : DS) (Q : List D → Prop) : List D → List D → Prop
  | [], acc => Q acc
  | d :: ds, acc => g d δ fun δ' => tt δ' fun b => if b = true then te δ' fun y => lcD g tt te δ Q ds (acc ++ [y]) else lcD g tt te δ Q ds acc
def fLc (ri : DA) (g : DG) (tt : DT) (te : DE) (vs : List Nat) : DA := fun δ Q => ri δ fun ds => ds.length ≤ sizeLine ∧ lcD g tt te (wipeD δ vs) Q ds []
section
variable {X : Cx} {B : Bx}
abbrev PTsD (X : Cx) (B : Bx) (es : List Expr) (r : DT) : Prop := PTs X es (liftT X.K B r)
def dYes : DT := fun _ Q => Q true
theorem ptsd_nil : PTsD X B [] dYes := ⟨fun pins s σ H Q I h => pts_nil.run pins s σ H Q I (by
  obtain ⟨H0, G, δ, Q', j, st, hr, k⟩ := h
  exact k true G H hr (Gr.refl j))⟩
theorem ptsd_one {c : Expr} {t : DT} (h : PTD X B c t) : PTsD X B [c] t := pts_one h
theorem lift_lc {K : PySem.W.Frag} {ri : DA} {g : DG} {is : List Nat} {tt : DT} {te : DE} {vs : List Nat} {σ : L2.St} {H : Hp} {P : VK} (hv : ∀ i ∈ is, i ∈ vs) (q : liftF K B (fLc ri g tt te vs) σ H P) :
    tLc (liftI K B ri) (liftG K B is g) (liftT K B tt) (liftE K B te) vs σ H P := by
  obtain ⟨H0, G, δ, Q, j, st, hr, k⟩ := q
  refine ⟨H0, G, δ, _, j, st, hr, fun ds J G2 H2 q2 g2 it p hp => ?_⟩
  obtain ⟨hz, q2⟩ := q2
  have nb : p ≠ B.b := Gr.neB g2.j hp
  have gp : G2 p = none := fresh_back g2.j.ex hp
  have st2 := (st.gr g2)
  refine ⟨fun i m H' => i + m = ds.length ∧ ∃ G' acc accD, Gr K B G2 H2 G' H' ∧ G' p = none ∧ H' p = some (.lst acc) ∧ Dats K B G' acc accD ∧ acc.length ≤ i ∧ lcD g tt te (wipeD δ vs) Q (ds.drop i) accD,
    ⟨ds.length, by omega, G2, [], [], Gr.new0 g2.j hp, gp, upd_same, .nil, Nat.le_refl _, q2⟩, fun i m H' hw => ?_⟩
  obtain ⟨em, G', acc, accD, gr, gp', hp', ha, hl, hf⟩ := hw
  by_cases hlt : i < ds.length
  · refine .inr ⟨it.go i G' H' gr.ex gr.j hlt, fun H1 => ∃ G1 acc accD, Gr K B G2 H2 G1 H1 ∧ G1 p = none ∧ H1 p = some (.lst acc) ∧ Dats K B G1 acc accD ∧ acc.length ≤ i + 1 ∧ lcD g tt te (wipeD δ vs) Q (ds.drop (i + 1)) accD, fun H1 hn => ⟨m - 1, by omega, by omega, hn⟩, fun x H1 hy => ?_⟩
    have hd : ds[i]? = some ds[i] := List.getElem?_eq_getElem hlt
    obtain ⟨G3, g3, hx⟩ := it.yld i G' H' x H1 _ gr.ex gr.j hy hd
    rw [List.drop_eq_getElem_cons hlt] at hf
    have hpn : Mu H' p := ⟨_, hp', fun _ z => by cases z⟩
    refine ⟨H0, G3, wipeD δ vs, ds[i], _, g3.j, (st2.gr (gr.trans g3)).wipe vs, hx, hf, fun σ2 δ2 q3 s3 u3 => ?_⟩
    refine ⟨by rw [u3.wipe hv, wipe_wipe], H0, G3, δ2, _, g3.j, s3, q3, fun b G4 H4 q4 g4 => ?_⟩
    have g34 := g3.trans g4
    cases b with
    | false =>
      exact ⟨G4, acc, accD, gr.trans g34, by rw [g34.old p hpn]; exact gp', g34.keep p _ nb hp', ha.mono g34.ex, Nat.le_succ_of_le hl, q4⟩
    | true =>
      refine ⟨H0, G4, δ2, _, g4.j, s3.gr g4, q4, fun y u G5 H5 q5 g5 h5 => ?_⟩
      have g35 := g34.trans g5
      have gp5 : G5 p = none := by rw [g35.old p hpn]; exact gp'
      refine ⟨acc, g35.keep p _ nb hp', by omega, G5, _, _, (gr.trans g35).own hp gp5 nb, gp5, upd_same, (ha.mono g35.ex).append (.cons h5 .nil), ?_, q5⟩
      rw [List.length_append]
      show acc.length + 1 ≤ i + 1
      omega
  · have e : i = ds.length := by omega
    subst e
    rw [List.drop_length] at hf
    exact .inl ⟨it.stop _ G' H' gr.ex gr.j (Nat.le_refl _), k _ p acc G' H' hf (g2.trans gr) (g2.free hp) gp' hp' ha⟩
theorem pf_lc {elt tg iter : Expr} {ifs : List Expr} {scope : Scope} {own : List (Str × Nat)} {pos : Pos} {ri : DA} {g : DG} {is : List Nat} {tt : DT} {te : DE} (hc : X.calm = true) (hN : X.N.Nodup) (hi : PID X B tg iter ri) (ok : BlkOk X.N X.env.scope scope own) (hv : ∀ i ∈ is, i ∈ own.map (·.2))
    (hg : ∀ (s : Shared) (H : Hp) (C : Addr) (cl : List (Str × Addr)) (fp : List Addr), PGD (X.blk s H scope (compEnvC scope cl C X.env) fp) B tg is g) (ht : ∀ (s : Shared) (H : Hp) (C : Addr) (cl : List (Str × Addr)) (fp : List Addr), PTsD (X.blk s H scope (compEnvC scope cl C X.env) fp) B ifs tt)
    (he : ∀ (s : Shared) (H : Hp) (C : Addr) (cl : List (Str × Addr)) (fp : List Addr), PD (X.blk s H scope (compEnvC scope cl C X.env) fp) B elt te) (hs : ∀ x, foldedSetIterable iter X.env x = pure x := by intro _; rfl) :
    PF X B (.ListComp elt [⟨tg, iter, ifs, 0⟩] scope pos) (fLc ri g tt te (own.map (·.2))) := pe_mono (pe_lc hc hN hi ok hg ht he hs) fun _ _ _ q => lift_lc hv q
/-- y = [..] -/
theorem psd_setLc {i : Nat} {y : Str} {py : Pos} {elt tg iter : Expr} {ifs : List Expr} {scope : Scope} {own : List (Str × Nat)} {pos spos : Pos} {ri : DA} {g : DG} {is : List Nat} {tt : DT} {te : DE} (hc : X.calm = true) (hN : X.N.Nodup) (hy : X.N[i]? = some y) (hyl : X.env.scope.names.lookup y = some .local)
    (hsw : swapsWith (.ListComp elt [⟨tg, iter, ifs, 0⟩] scope pos) (some (.Name y py)) spos.line X.env = pure true) (hi : PID X B tg iter ri) (ok : BlkOk X.N X.env.scope scope own) (hv : ∀ i ∈ is, i ∈ own.map (·.2))
    (hg : ∀ (s : Shared) (H : Hp) (C : Addr) (cl : List (Str × Addr)) (fp : List Addr), PGD (X.blk s H scope (compEnvC scope cl C X.env) fp) B tg is g) (ht : ∀ (s : Shared) (H : Hp) (C : Addr) (cl : List (Str × Addr)) (fp : List Addr), PTsD (X.blk s H scope (compEnvC scope cl C X.env) fp) B ifs tt)
    (he : ∀ (s : Shared) (H : Hp) (C : Addr) (cl : List (Str × Addr)) (fp : List Addr), PD (X.blk s H scope (compEnvC scope cl C X.env) fp) B elt te) (hs : ∀ x, foldedSetIterable iter X.env x = pure x := by intro _; rfl) :
    PSD X B (.Assign [.Name y py] (.ListComp elt [⟨tg, iter, ifs, 0⟩] scope pos) spos) (dSet i (dF (fLc ri g tt te (own.map (·.2))))) := ps_mono (ps_setLc hc hN hy hyl hsw hi ok hg ht he hs) fun E σ H q => by
  obtain ⟨G0, H0, G, δ, W, g0, s, h, k⟩ := q
  refine lift_lc hv ⟨H0, G, δ, _, g0.j, s, h, fun ds p vs G2 H2 q2 g2 hp gp h2 hd => ?_⟩
  have g3 := g2.frz hp gp (Gr.neB g0.j hp) h2
  exact k.nx _ _ _ _ q2 (g0.trans g3) g3.ex ((s.gr g3).set (.lst upd_same (hd.mono (Ex.new gp))))

/-! lists of one's own -/
def dSetO (i : Nat) (ra : DA) : DTS := fun W δ => ra δ fun ds => ∀ v, W.nx (δ.set i (some (.ow v (.lst (ds.map .sh)))))
theorem at_own {K : PySem.W.Frag} {G0 H0 G H G2 H2 : Hp} {σ : L2.St} {δ : DS} {i : Nat} {p : Addr} {vs : List V} {ds : List D} (g0 : Gr K B G0 H0 G H) (s : StOk K B H0 G H σ δ) (g2 : Gr K B G H G2 H2) (hp : H p = none) (gp : G2 p = none) (h2 : H2 p = some (.lst vs)) (hd : Dats K B G2 vs ds) :
    StOk K B H0 G2 H2 (σ.set i (some (.ref p))) (δ.set i (some (.ow (.ref p) (.lst (ds.map .sh))))) :=
  s.setO g2 (.lst h2 gp (Owns.of hd)) (List.nodup_cons.mpr ⟨List.not_mem_nil, List.nodup_nil⟩) fun q hq => by
    cases (List.mem_singleton.mp hq)
    exact ⟨hp, g0.free hp, Gr.neB g0.j hp⟩
theorem psd_setO {i : Nat} {x : Str} {e : Expr} {ra : DA} {pos pos' : Pos} (hN : X.N.Nodup) (hi : X.N[i]? = some x) (hx : Loc X.env.scope x) (he : PF X B e ra) (hs : swapsWith e (some (.Name x pos')) pos.line X.env = pure false := by rfl) (hf : X.fn x = true ∨ X.env.scope.names.lookup x = some .local := by first | exact .inl rfl | exact .inr rfl | assumption) :
    PSD X B (.Assign [.Name x pos'] e pos) (dSetO i ra) := ps_mono (ps_set hN hi hx he hs hf) fun E σ H q => by
  obtain ⟨G0, H0, G, δ, W, g0, s, h, k⟩ := q
  refine ⟨H0, G, δ, _, g0.j, s, h, fun ds p vs G2 H2 q2 g2 hp gp h2 hd => ?_⟩
  exact k.nx _ _ _ _ (q2 (.ref p)) (g0.trans g2) g2.ex (at_own g0 s g2 hp gp h2 hd)
/-- what was one's own becomes known -/
theorem Gr.frzs {K : PySem.W.Frag} {G H G2 H2 : Hp} {f : List Addr} (x : Gr K B G H G2 H2) (hf : ∀ p ∈ f, H p = none ∧ p ≠ B.b ∧ G2 p = none) : Gr K B G H (frzG G2 H2 f) H2 := by
  have ex := frz_ex (G := G2) (H := H2) (f := f) fun p hp => (hf p hp).2.2
  refine ⟨x.ex.trans ex, x.keep, ⟨fun a u h => ?_, ?_, ?_⟩, fun a h => ?_⟩
  · unfold frzG at h
    split at h
    · exact h
    · exact x.j.ex a u h
  · unfold frzG
    rw [if_neg fun z => (hf _ z).2.1 rfl]
    exact x.j.no
  · obtain ⟨a, b, c, ns, h1, h2, h3⟩ := x.j.bag
    exact ⟨a, b, c, ns, h1, ex_l ex h2, h3⟩
  · unfold frzG
    rw [if_neg fun z => h.ne (hf _ z).1]
    exact x.old a h
/-- what stands in slot i is one's own no more: it's data from here on -/
def dFrz (i : Nat) (t : DTS) : DTS := fun W δ => match δ[i]? with
  | some (some (.ow _ o)) => t W (δ.set i (some (.sh o.toD)))
  | _ => False
theorem set_same {σ : L2.St} {i : Nat} {v : V} (h : σ[i]? = some (some v)) : σ.set i (some v) = σ := by
  apply List.ext_getElem?
  intro j
  by_cases hj : i = j
  · subst hj
    rw [List.getElem?_set_self (List.getElem?_eq_some_iff.mp h).1, h]
  · rw [List.getElem?_set_ne hj]
/-- the dicts at these places are locked -/
theorem lock_all {pins : List (Addr × Obj)} {σ : L2.St} {s : Shared} : ∀ (f : List Addr) {H : Hp}, Inv X pins σ H s → f.Nodup → ∃ L, Inv X pins σ L s ∧ Lkd H L f
  | [], H, I, _ => ⟨H, I, fun _ _ => rfl, fun _ _ h => h, (fun _ _ z => nomatch z), (fun _ _ z => nomatch z)⟩
  | p :: f, H, I, nd => by
    have hp : p ∉ f := (List.nodup_cons.mp nd).1
    obtain ⟨L, I1, l⟩ := lock_all f I (List.nodup_cons.mp nd).2
    have hpL : L p = H p := l.out p hp
    by_cases h1 : ∃ u, H p = some u ∧ Mut (some u) ∧ ((∃ vs, u = .dK vs) ∨ ∃ vs, u = .dT vs)
    · obtain ⟨u, hu, mu, hk⟩ := h1
      obtain ⟨od, I2⟩ := I1.lock (hpL.trans hu) mu
      refine ⟨_, I2, fun q hq => ?_, fun q vs h => ?_, fun q vs hq h => ?_, fun q vs hq h => ?_⟩
      · rw [upd_ne fun e => hq (by rw [e]; exact List.mem_cons_self)]
        exact l.out q fun z => hq (List.mem_cons_of_mem _ z)
      · have ne : q ≠ p := fun e => by
          rw [e, hu] at h
          cases h
          rcases hk with ⟨_, z⟩ | ⟨_, z⟩ <;> cases z
        rw [upd_ne ne]
        exact l.lst q vs h
      · by_cases e : q = p
        · subst e
          rw [hu] at h
          cases h
          exact ⟨od, upd_same⟩
        · rw [upd_ne e]
          exact l.dK q vs ((List.mem_cons.mp hq).resolve_left e) h
      · by_cases e : q = p
        · subst e
          rw [hu] at h
          cases h
          exact ⟨od, upd_same⟩
        · rw [upd_ne e]
          exact l.dT q vs ((List.mem_cons.mp hq).resolve_left e) h
    · refine ⟨L, I1, fun q hq => l.out q fun z => hq (List.mem_cons_of_mem _ z), l.lst, fun q vs hq h => ?_, fun q vs hq h => ?_⟩
      · by_cases e : q = p
        · subst e
          exact absurd ⟨_, h, trivial, .inl ⟨_, rfl⟩⟩ h1
        · exact l.dK q vs ((List.mem_cons.mp hq).resolve_left e) h
      · by_cases e : q = p
        · subst e
          exact absurd ⟨_, h, trivial, .inr ⟨_, rfl⟩⟩ h1
        · exact l.dT q vs ((List.mem_cons.mp hq).resolve_left e) h
/-- own places are locked: what is known stays known -/
theorem Gr.lock {K : PySem.W.Frag} {G H G2 H2 L : Hp} {f : List Addr} (x : Gr K B G H G2 H2) (l : Lkd H2 L f) (hf : ∀ p ∈ f, H p = none ∧ p ≠ B.b ∧ G2 p = none) : Gr K B G H G2 L := by
  refine ⟨x.ex, fun a o n h => ?_, ⟨fun a u h => ?_, x.j.no, ?_⟩, x.old⟩
  · rw [l.out a fun z => by rw [(hf a z).1] at h; cases h]
    exact x.keep a o n h
  · rw [l.out a fun z => by rw [(hf a z).2.2] at h; cases h]
    exact x.j.ex a u h
  · obtain ⟨a, b, c, ns, h1, h2, h3⟩ := x.j.bag
    exact ⟨a, b, c, ns, by rw [l.out _ fun z => (hf _ z).2.1 rfl]; exact h1, h2, h3⟩
theorem frz_run {i : Nat} {t : DTS} {E : Ends} {σ : L2.St} {H : Hp} {pins : List (Addr × Obj)} {s : Shared} (I : Inv X pins σ H s) (q : liftS X.K B (dFrz i t) E σ H) : ∃ L, Inv X pins σ L s ∧ liftS X.K B t E σ L := by
  obtain ⟨G0, H0, G, δ, W, g0, st, h, k⟩ := q
  unfold dFrz at h
  cases h1 : δ[i]? with
  | none => rw [h1] at h; exact h.elim
  | some o =>
    cases o with
    | none => rw [h1] at h; exact h.elim
    | some x =>
      cases x with
      | sh d => rw [h1] at h; exact h.elim
      | nw _ _ _ => rw [h1] at h; exact h.elim
      | ow v o =>
        rw [h1] at h
        obtain ⟨F, y⟩ := st.ex
        obtain ⟨e1, e2, e3, e4⟩ := y.ow h1
        obtain ⟨L, I2, l⟩ := lock_all (F i) I e3
        have hG : ∀ p ∈ F i, G p = none := fun p hp => (e2.node p hp).1
        have ex := frz_ex (G := G) (H := L) hG
        have g1 := g0.lock l fun p hp => ⟨(e4 p hp).1, (e4 p hp).2, hG p hp⟩
        refine ⟨L, I2, G0, H0, frzG G L (F i), δ.set i (some (.sh o.toD)), W, g1.frzs fun p hp => ⟨(e4 p hp).1, (e4 p hp).2, hG p hp⟩, ?_, h, k.up ex⟩
        have s3 := y.put (i := i) (List.getElem?_eq_some_iff.mp e1).1 ex (H2 := L) (fun p _ _ hp => ⟨l.out p hp, by unfold frzG; rw [if_neg hp]⟩) (.sh (e2.dat hG l fun p hp => hp)) fun p hp => nomatch hp
        rw [set_same e1] at s3
        exact ⟨_, s3⟩
theorem psd_frz {st : Stmt} {t : DTS} (i : Nat) (h : PSD X B st t) : PSD X B st (dFrz i t) := ⟨fun pins s σ H E I hw => let ⟨L, I2, q⟩ := frz_run I hw; h.run pins s σ L E I2 q⟩
theorem psds_frz {st : List Stmt} {t : DTS} (i : Nat) (h : PSsD X B st t) : PSsD X B st (dFrz i t) := ⟨fun pins s σ H E I hw => let ⟨L, I2, q⟩ := frz_run I hw; h.run pins s σ L E I2 q⟩

/-! while -/
def dWhile (c : DT) (tb : DTS) : DTS := fun W δ => ∃ I : Nat → DS → Prop, (∃ m, I m δ) ∧ ∀ m δ', I m δ' → c δ' fun b => if b = true then tb { W with nx := fun δ2 => ∃ m', m' < m ∧ I m' δ2, ct := fun δ2 => ∃ m', m' < m ∧ I m' δ2, bk := W.nx } δ' else W.nx δ'
theorem psd_while {c : Expr} {body : List Stmt} {tc : DT} {tb : DTS} {pos : Pos} (hp : PassesOwn (model X.prog X.w) X.A X.env X.xe) (hc : PTD X B c tc) (hb : PSsD X B body tb) : PSD X B (.While c body [] pos) (dWhile tc tb) := ps_mono (ps_while hp hc hb) fun E σ H q => by
  obtain ⟨G0, H0, G, δ, W, g0, s, ⟨I, ⟨m0, h0⟩, h⟩, k⟩ := q
  refine ⟨fun m σ H => ∃ G' δ', Ex G G' ∧ Gr X.K B G0 H0 G' H ∧ StOk X.K B H0 G' H σ δ' ∧ I m δ', ⟨m0, G, δ, Ex.refl _, g0, s, h0⟩, fun m σ H hw => ?_⟩
  obtain ⟨G', δ', ex, gr, st, hi⟩ := hw
  refine ⟨H0, G', δ', _, gr.j, st, h m δ' hi, fun b G2 H2 q2 g2 => ?_⟩
  cases b with
  | false => exact k.nx _ _ _ _ q2 (gr.trans g2) (ex.trans g2.ex) (st.gr g2)
  | true =>
    refine ⟨fun σ1 H1 => ∃ G1 δ1, Ex G G1 ∧ Gr X.K B G0 H0 G1 H1 ∧ StOk X.K B H0 G1 H1 σ1 δ1 ∧ ∃ m', m' < m ∧ I m' δ1, fun σ1 H1 hn => ?_, ?_⟩
    · obtain ⟨G1, δ1, a1, a2, a3, m', a4, a5⟩ := hn
      exact ⟨m', a4, G1, δ1, a1, a2, a3, a5⟩
    · refine ⟨G0, H0, G2, δ', _, gr.trans g2, st.gr g2, q2, ⟨?_, ?_, ?_, ?_, ?_⟩⟩
      · exact fun σ4 δ4 G4 H4 q4 g4 e4 s4 => ⟨G4, δ4, (ex.trans g2.ex).trans e4, g4, s4, q4⟩
      · exact fun σ4 δ4 G4 H4 q4 g4 e4 s4 => k.nx _ _ _ _ q4 g4 ((ex.trans g2.ex).trans e4) s4
      · exact fun σ4 δ4 G4 H4 q4 g4 e4 s4 => ⟨G4, δ4, (ex.trans g2.ex).trans e4, g4, s4, q4⟩
      · exact fun d v G4 H4 q4 g4 e4 h4 => k.rt _ _ _ _ q4 g4 ((ex.trans g2.ex).trans e4) h4
      · exact fun o v f G4 H4 q4 g4 e4 h4 => k.ro _ _ _ _ _ q4 g4 ((ex.trans g2.ex).trans e4) h4
end

/-! a def -/
def startD (n : Nat) (ds : List D) : DS := ds.map (fun d => some (.sh d)) ++ List.replicate (n - ds.length) none
theorem start_ok {K : PySem.W.Frag} {B : Bx} {H0 G H : Hp} {N : List Str} {vs : List V} {ds : List D} (h : Dats K B G vs ds) : StOk K B H0 G H (L2.start N vs) (startD N.length ds) := by
  refine ⟨fun _ => [], ?_, fun i ov od e1 e2 => ?_, fun _ _ _ _ _ p hp => nomatch hp⟩
  · unfold L2.start startD
    rw [List.length_append, List.length_append, List.length_map, List.length_map, List.length_replicate, List.length_replicate, h.len]
  · unfold startD at e2
    unfold L2.start at e1
    by_cases hi : i < ds.length
    · rw [List.getElem?_append_left (by rw [List.length_map]; exact hi), List.getElem?_map] at e2
      rw [List.getElem?_append_left (by rw [List.length_map, h.len]; exact hi), List.getElem?_map] at e1
      cases hd : ds[i]? with
      | none => rw [hd] at e2; cases e2
      | some d' =>
        rw [hd] at e2
        cases e2
        obtain ⟨v, h1, h2⟩ := h.get hd
        rw [h1] at e1
        cases e1
        exact .sh h2
    · rw [List.getElem?_append_right (by rw [List.length_map]; omega), List.getElem?_replicate] at e2
      split at e2
      · cases e2
        exact .no
      · cases e2
section
variable {P : Program} {w : World} {K : PySem.W.Frag} {mg : Str → Option Value} {base : Heap}
theorem fn_d {x qual : Str} {st : Stmt} {f : Addr} {fd : FuncData} {N ps : List Str} {k : Nat} {B : Bx} {S : FD} {t : DTS} (F : Fun K x qual st f fd) (Sc : FnScope N ps (defScope st)) (len : ∀ ds Q, S ds Q → ds.length = ps.length)
    (hbody : ∀ (cdv : Value) (A : Around) (outer : List Env) (s : Shared) (H : Hp) (E : XK), Room k (A.deeper (envOfC qual (defScope st) s.heap.objs.size f cdv)) → PSsD (cxOf CX0 P w K mg base N qual (defScope st) f cdv A outer s H E).nox B (defBody st) t)
    (vc : ∀ ds Q, S ds Q → t { nx := fun _ => Q .non, rt := Q } (startD N.length ds)) : FnOk P w K mg base CX0 (k + 1) f fd ps (spD K B S) := by
  refine F.ok Sc (fun vs H Q E h => ?_) (fun cdv A outer s H vs Q E hr h => ⟨_, hbody cdv A outer s H E hr, ?_⟩)
  · obtain ⟨G, ds, R, j, hd, hs, _⟩ := h
    rw [hd.len]
    exact len ds R hs
  · obtain ⟨G, ds, R, j, hd, hs, kk⟩ := h
    refine ⟨G, H, G, startD N.length ds, _, Gr.refl j, start_ok hd, vc ds R hs, ⟨?_, ?_, ?_, ?_, ?_⟩⟩
    · exact fun σ δ G2 H2 q g _ s2 => kk .non .non G2 H2 q g .non
    · exact fun σ δ G2 H2 q g _ s2 => q.elim
    · exact fun σ δ G2 H2 q g _ s2 => q.elim
    · exact fun d v G2 H2 q g _ hd => kk d v G2 H2 q g hd
    · exact fun o v f G2 H2 q => q.elim
end
end DL
namespace DL
open PySem PySem.Spec PyProof.Rows L2 Evl

/-! plain data: what == and repr speak of -/
mutual
def D.py : D → PyData
  | .non => .none
  | .bl b => .bool b
  | .int i => .int i
  | .str x => .str x
  | .lst xs => .list (pyL xs)
  | .tup xs => .tuple (pyL xs)
  | .dic _ => .none
  | .obj _ _ => .none
  | .bag => .none
  | .ktup _ => .none
def pyL : List D → List PyData
  | [] => []
  | x :: xs => D.py x :: pyL xs
end
mutual
def D.fine : D → Bool
  | .non => true
  | .bl _ => true
  | .int i => decide (i.natAbs.log2 < 1920)
  | .str x => PyData.strOk x
  | .lst xs => fineL xs
  | .tup xs => fineL xs
  | .dic _ => false
  | .obj _ _ => false
  | .bag => false
  | .ktup _ => false
def fineL : List D → Bool
  | [] => true
  | x :: xs => D.fine x && fineL xs
end
mutual
def D.dep : D → Nat
  | .lst xs => depL xs + 1
  | .tup xs => depL xs + 1
  | _ => 0
def depL : List D → Nat
  | [] => 0
  | x :: xs => max (D.dep x) (depL xs)
end
mutual
def D.wt : D → Nat
  | .non => 4
  | .bl _ => 5
  | .int _ => 2000
  | .str x => 10 * x.length + 2
  | .lst xs => wtL xs + 4
  | .tup xs => wtL xs + 4
  | _ => 0
def wtL : List D → Nat
  | [] => 0
  | x :: xs => D.wt x + 2 + wtL xs
end
mutual
theorem py_lay : ∀ d : D, d.fine = true → d.py.canLay0 = true
  | .non, _ => rfl
  | .bl _, _ => rfl
  | .int _, _ => rfl
  | .str x, h => by simpa [D.py, PyData.canLay0, D.fine] using h
  | .lst xs, h => by
    rw [D.py, PyData.canLay0]
    exact pyL_lay xs (by simpa [D.fine] using h)
  | .tup xs, h => by
    rw [D.py, PyData.canLay0]
    exact pyL_lay xs (by simpa [D.fine] using h)
  | .dic _, h => by simp [D.fine] at h
  | .obj _ _, h => by simp [D.fine] at h
  | .bag, h => by simp [D.fine] at h
  | .ktup _, h => by simp [D.fine] at h
theorem pyL_lay : ∀ ds : List D, fineL ds = true → PyData.canLayAll0 (pyL ds) = true
  | [], _ => rfl
  | x :: xs, h => by
    have h' : x.fine = true ∧ fineL xs = true := by simpa [fineL] using h
    rw [pyL, PyData.canLayAll0, py_lay x h'.1, pyL_lay xs h'.2]
    rfl
end
mutual
theorem py_show : ∀ d : D, d.fine = true → d.py.showable = true
  | .non, _ => rfl
  | .bl _, _ => rfl
  | .int i, h => by simpa [D.py, PyData.showable, D.fine] using h
  | .str x, h => rfl
  | .lst xs, h => by
    rw [D.py, PyData.showable]
    exact pyL_show xs (by simpa [D.fine] using h)
  | .tup xs, h => by
    rw [D.py, PyData.showable]
    exact pyL_show xs (by simpa [D.fine] using h)
  | .dic _, h => by simp [D.fine] at h
  | .obj _ _, h => by simp [D.fine] at h
  | .bag, h => by simp [D.fine] at h
  | .ktup _, h => by simp [D.fine] at h
theorem pyL_show : ∀ ds : List D, fineL ds = true → PyData.showableAll (pyL ds) = true
  | [], _ => rfl
  | x :: xs, h => by
    have h' : x.fine = true ∧ fineL xs = true := by simpa [fineL] using h
    rw [pyL, PyData.showableAll, py_show x h'.1, pyL_show xs h'.2]
    rfl
end
mutual
theorem py_dep : ∀ d : D, d.fine = true → d.py.depth ≤ d.dep
  | .non, _ => by simp [D.py, PyData.depth]
  | .bl _, _ => by simp [D.py, PyData.depth]
  | .int _, _ => by simp [D.py, PyData.depth]
  | .str x, h => by simp [D.py, PyData.depth]
  | .lst xs, h => by
    have := pyL_dep xs (by simpa [D.fine] using h)
    rw [D.py, PyData.depth, D.dep]
    omega
  | .tup xs, h => by
    have := pyL_dep xs (by simpa [D.fine] using h)
    rw [D.py, PyData.depth, D.dep]
    omega
  | .dic _, h => by simp [D.fine] at h
  | .obj _ _, h => by simp [D.fine] at h
  | .bag, h => by simp [D.fine] at h
  | .ktup _, h => by simp [D.fine] at h
theorem pyL_dep : ∀ ds : List D, fineL ds = true → PyData.depthAll (pyL ds) ≤ depL ds
  | [], _ => by simp [pyL, PyData.depthAll]
  | x :: xs, h => by
    have h' : x.fine = true ∧ fineL xs = true := by simpa [fineL] using h
    have h1 := py_dep x h'.1
    have h2 := pyL_dep xs h'.2
    rw [pyL, PyData.depthAll, depL]
    omega
end
theorem textFrom_up : ∀ (ts : List Str) (k : Nat) (acc : Str), (textFrom k acc ts).length ≤ acc.length + (ts.map fun t => t.length + 2).sum
  | [], k, acc => by simp [textFrom]
  | t :: r, k, acc => by
    have ih := textFrom_up r (k + 1) (acc ++ (if k > 0 then ", " else "" : String) ++ t)
    rw [textFrom]
    have e : (acc ++ (if k > 0 then ", " else "" : String) ++ t).length ≤ acc.length + 2 + t.length := by
      rw [strLen_append, strLen_append]
      by_cases hk : k > 0
      · rw [if_pos hk]
        have e2 : ((", " : String) : Str).length = 2 := rfl
        omega
      · rw [if_neg hk]
        have e2 : (("" : String) : Str).length = 0 := rfl
        omega
    rw [List.map_cons, List.sum_cons]
    omega
theorem listText_up (ts : List Str) : (listText ts).length ≤ (ts.map fun t => t.length + 2).sum + 2 := by
  unfold listText
  rw [strLen_append]
  have h := textFrom_up ts 0 "["
  have e1 : (("[" : String) : Str).length = 1 := rfl
  have e2 : (("]" : String) : Str).length = 1 := rfl
  omega
theorem join_up : ∀ ts : List Str, (Str.join ", " ts).length ≤ (ts.map fun t => t.length + 2).sum
  | [] => by simp [Str.join]; rfl
  | [x] => by
    show x.length ≤ _
    simp
  | x :: y :: r => by
    have ih := join_up (y :: r)
    show (x ++ ", " ++ Str.join ", " (y :: r)).length ≤ _
    rw [strLen_append, strLen_append, List.map_cons, List.sum_cons]
    have e2 : ((", " : String) : Str).length = 2 := rfl
    omega
theorem tupleText_up (ts : List Str) : (tupleText ts).length ≤ (ts.map fun t => t.length + 2).sum + 3 := by
  unfold tupleText
  rw [strLen_append, strLen_append]
  have h := join_up ts
  have e1 : (("(" : String) : Str).length = 1 := rfl
  by_cases hk : (ts.length == 1) = true
  · rw [if_pos hk]
    have e2 : ((",)" : String) : Str).length = 2 := rfl
    omega
  · rw [if_neg hk]
    have e2 : ((")" : String) : Str).length = 1 := rfl
    omega
theorem strOk_lt {x : Str} (h : PyData.strOk x = true) : ∀ c ∈ x.cps.toList, c < 16 ^ 8 := fun c hc => by
  unfold PyData.strOk at h
  rw [← Array.all_toList, List.all_eq_true] at h
  have := of_decide_eq_true (h c hc)
  omega
theorem int_text_len {i : Int} (h : i.natAbs.log2 < 1920) : (Str.ofString (toString i)).length ≤ 2000 := by
  rw [PySem.ofString_length]
  have := int_text_length_le (by decide) h
  omega
mutual
theorem py_len : ∀ d : D, d.fine = true → d.py.shown.length ≤ d.wt
  | .non, _ => by decide +kernel
  | .bl b, _ => by cases b <;> decide +kernel
  | .int i, h => by
    rw [D.py, PyData.shown, D.wt]
    exact int_text_len (by simpa [D.fine] using h)
  | .str x, h => by
    rw [D.py, PyData.shown, D.wt]
    exact StrLaws.reprText_len x (strOk_lt (by simpa [D.fine] using h))
  | .lst xs, h => by
    have := pyL_len xs (by simpa [D.fine] using h)
    have h2 := listText_up (PyData.shownAll (pyL xs))
    rw [D.py, PyData.shown, D.wt]
    omega
  | .tup xs, h => by
    have := pyL_len xs (by simpa [D.fine] using h)
    have h2 := tupleText_up (PyData.shownAll (pyL xs))
    rw [D.py, PyData.shown, D.wt]
    omega
  | .dic _, h => by simp [D.fine] at h
  | .obj _ _, h => by simp [D.fine] at h
  | .bag, h => by simp [D.fine] at h
  | .ktup _, h => by simp [D.fine] at h
theorem pyL_len : ∀ ds : List D, fineL ds = true → ((PyData.shownAll (pyL ds)).map fun t => t.length + 2).sum ≤ wtL ds
  | [], _ => by simp [pyL, PyData.shownAll]
  | x :: xs, h => by
    have h' : x.fine = true ∧ fineL xs = true := by simpa [fineL] using h
    have h1 := py_len x h'.1
    have h2 := pyL_len xs h'.2
    rw [pyL, PyData.shownAll, wtL, List.map_cons, List.sum_cons]
    omega
end
section
variable {K : PySem.W.Frag} {B : Bx} {G H : Hp}
mutual
theorem dat_dp (e : Ex G H) : ∀ {v : V} {d : D}, Dat K B G v d → d.fine = true → Dp K H v d.py
  | _, _, .non, _ => .non
  | _, _, .bl b, _ => .bl b
  | _, _, .int i, _ => .int i
  | _, _, .str x, _ => .str x
  | _, _, .lst h t, f => by
    rw [D.py]
    exact .lst (sq_of (e _ _ h)) (dats_dp e t (by simpa [D.fine] using f))
  | _, _, .tup h t, f => by
    rw [D.py]
    exact .tup (tx e h) (dats_dp e t (by simpa [D.fine] using f))
  | _, _, .dK h t, f => by simp [D.fine] at f
  | _, _, .dT h t, f => by simp [D.fine] at f
  | _, _, .ktup h t, f => by simp [D.fine] at f
  | _, _, .bag, f => by simp [D.fine] at f
  | _, _, .obj _ _ _, f => by simp [D.fine] at f
theorem dats_dp (e : Ex G H) : ∀ {v : List V} {d : List D}, Dats K B G v d → fineL d = true → DpAll K H v (pyL d)
  | _, _, .nil, _ => .nil
  | _, _, .cons h t, f => by
    have f' := (Bool.and_eq_true_iff.mp (show (D.fine _ && fineL _) = true by rw [fineL] at f; exact f))
    rw [pyL]
    exact .cons (dat_dp e h f'.1) (dats_dp e t f'.2)
end
end
def eqb (x y : D) : Bool := PyData.eqv x.py y.py
theorem eqb_refl {x : D} (h : x.fine = true) : eqb x x = true := SeqAt.eqv_refl _ (py_lay x h)
def plain (x : D) : Bool := x.fine && decide (x.dep ≤ 64)
theorem plain_shaped {x : D} (h : plain x = true) : SeqAt.shaped x.py = true := by
  have h' := Bool.and_eq_true_iff.mp h
  have h2 := py_dep x h'.1
  have h3 : x.dep ≤ 64 := of_decide_eq_true h'.2
  unfold SeqAt.shaped
  rw [py_lay x h'.1, decide_eq_true (by omega : x.py.depth ≤ 64)]
  rfl

/-! == -/
def oEq : O2 := fun x y Q => match x, y with
  | .str a, .str b => Q (.bl (decide (a = b)))
  | .int a, .int b => Q (.bl (decide (a = b)))
  | .bl a, .bl b => Q (.bl (a == b))
  | x, y => (plain x = true ∧ plain y = true) ∧ Q (.bl (eqb x y))
def oNe : O2 := fun x y Q => match x, y with
  | .str a, .str b => Q (.bl (!decide (a = b)))
  | .int a, .int b => Q (.bl (!decide (a = b)))
  | .bl a, .bl b => Q (.bl (!(a == b)))
  | x, y => (plain x = true ∧ plain y = true) ∧ Q (.bl (!eqb x y))
theorem dec_str_v {a b : Str} : decide (V.str a = V.str b) = decide (a = b) := by
  by_cases e : a = b
  · subst e; simp
  · rw [decide_eq_false e, decide_eq_false fun z => e (V.str.inj z)]
theorem dec_int_v {a b : Int} : decide (V.int a = V.int b) = decide (a = b) := by
  by_cases e : a = b
  · subst e; simp
  · rw [decide_eq_false e, decide_eq_false fun z => e (V.int.inj z)]
theorem op_eq_d {X : Cx} {B : Bx} (hu : X.A.units + 64 < cLine) : OpR X (compareOp .Eq) (rLift X.K B oEq) := by
  intro pins s σ H x y v u P I rx ry h
  obtain ⟨G, dx, dy, Q, j, hx, hy, hq, k⟩ := h
  have gen : (plain dx = true ∧ plain dy = true) ∧ Q (.bl (eqb dx dy)) → wpAny (model X.prog X.w) X.A (compareOp .Eq v u) (EP X pins σ P) X.xe s := fun ⟨⟨px, py⟩, q⟩ =>
    op_eqD hu pins s σ H x y v u P I rx ry ⟨dx.py, dy.py, dat_dp j.ex hx (Bool.and_eq_true_iff.mp px).1, dat_dp j.ex hy (Bool.and_eq_true_iff.mp py).1, plain_shaped px, plain_shaped py, k _ _ G H q (Gr.refl j) (.bl _)⟩
  cases hx with
  | str a =>
    cases hy with
    | str b =>
      refine op_eq pins s σ H _ _ v u P I rx ry ⟨rfl, ?_⟩
      rw [dec_str_v]
      exact k _ _ G H hq (Gr.refl j) (.bl _)
    | _ => exact gen hq
  | int a =>
    cases hy with
    | int b =>
      refine op_eq pins s σ H _ _ v u P I rx ry ⟨rfl, ?_⟩
      rw [dec_int_v]
      exact k _ _ G H hq (Gr.refl j) (.bl _)
    | _ => exact gen hq
  | bl a =>
    cases hy with
    | bl b =>
      refine op_eq pins s σ H _ _ v u P I rx ry ⟨rfl, ?_⟩
      rw [dec_bl]
      exact k _ _ G H hq (Gr.refl j) (.bl _)
    | _ => exact gen hq
  | _ => exact gen hq
theorem op_ne_d {X : Cx} {B : Bx} (hu : X.A.units + 64 < cLine) : OpR X (compareOp .NotEq) (rLift X.K B oNe) := by
  intro pins s σ H x y v u P I rx ry h
  obtain ⟨G, dx, dy, Q, j, hx, hy, hq, k⟩ := h
  have gen : (plain dx = true ∧ plain dy = true) ∧ Q (.bl (!eqb dx dy)) → wpAny (model X.prog X.w) X.A (compareOp .NotEq v u) (EP X pins σ P) X.xe s := fun ⟨⟨px, py⟩, q⟩ =>
    op_neD hu pins s σ H x y v u P I rx ry ⟨dx.py, dy.py, dat_dp j.ex hx (Bool.and_eq_true_iff.mp px).1, dat_dp j.ex hy (Bool.and_eq_true_iff.mp py).1, plain_shaped px, plain_shaped py, k _ _ G H q (Gr.refl j) (.bl _)⟩
  cases hx with
  | str a =>
    cases hy with
    | str b =>
      refine op_ne pins s σ H _ _ v u P I rx ry ⟨rfl, ?_⟩
      rw [dec_str_v]
      exact k _ _ G H hq (Gr.refl j) (.bl _)
    | _ => exact gen hq
  | int a =>
    cases hy with
    | int b =>
      refine op_ne pins s σ H _ _ v u P I rx ry ⟨rfl, ?_⟩
      rw [dec_int_v]
      exact k _ _ G H hq (Gr.refl j) (.bl _)
    | _ => exact gen hq
  | bl a =>
    cases hy with
    | bl b =>
      refine op_ne pins s σ H _ _ v u P I rx ry ⟨rfl, ?_⟩
      rw [dec_bl]
      exact k _ _ G H hq (Gr.refl j) (.bl _)
    | _ => exact gen hq
  | _ => exact gen hq

/-! repr -/
def cRepr : FD := fun ds Q => match ds with
  | [d] => (plain d = true ∧ d.wt ≤ 16000000) ∧ Q (.str d.py.shown)
  | _ => False
theorem call_repr_d {X : Cx} {B : Bx} (hg : X.A.guards = some []) (hu : X.A.units + 70 < cLine) : CallR X (.builtin "repr") (cLift X.K B cRepr) := by
  intro pins s σ H vs us P I rv h
  obtain ⟨G, ds, Q, j, hd, hq, k⟩ := h
  cases hd with
  | nil => exact hq.elim
  | cons h1 h2 =>
    cases h2 with
    | cons _ _ => exact hq.elim
    | nil =>
      rename_i v d
      obtain ⟨⟨hp, hw⟩, hq⟩ := hq
      have hf := (Bool.and_eq_true_iff.mp hp).1
      have hdep : d.dep ≤ 64 := of_decide_eq_true (Bool.and_eq_true_iff.mp hp).2
      have hdep2 := py_dep d hf
      have hz : d.py.shown.length ≤ sizeLine := Nat.le_trans (py_len d hf) (Nat.le_trans hw (by decide))
      have kk := k _ _ G H hq (Gr.refl j) (.str _)
      cases rv with
      | cons r1 r2 =>
        cases r2
        cases h1 with
        | non =>
          cases r1
          exact PySem.P.repr_of_none ⟨.str _, H, I.tok _, ⟨_, rfl⟩, kk⟩
        | bl b =>
          cases r1
          refine PySem.P.repr_of_bool ⟨.str _, H, I.tok _, ⟨_, rfl⟩, ?_⟩
          rw [D.py, PyData.shown] at kk
          cases b <;> exact kk
        | int i =>
          obtain ⟨t, rfl⟩ := r1
          exact PySem.P.repr_of_int (by simpa [D.fine] using hf) ⟨.str _, H, I.tok _, ⟨_, rfl⟩, kk⟩
        | str x =>
          obtain ⟨t, rfl⟩ := r1
          exact PySem.P.repr_of_str ⟨.str _, H, I.tok _, ⟨_, rfl⟩, kk⟩ hz
        | lst a1 a2 =>
          obtain ⟨as, hr⟩ := Dp.reads I _ _ _ (dat_dp j.ex (.lst a1 a2) hf) r1
          cases r1
          exact repr_of_reads' hr (py_show _ hf) (PyData.noDict_hsm (PyData.hasDict_of_canLay _ (py_lay _ hf))) hg (by omega) (fun _ _ e => e) (fun h' u tk hk => ⟨.str _, H, I.kept hk, ⟨_, rfl⟩, kk⟩) hz
        | tup a1 a2 =>
          obtain ⟨as, hr⟩ := Dp.reads I _ _ _ (dat_dp j.ex (.tup a1 a2) hf) r1
          cases r1
          exact repr_of_reads' hr (py_show _ hf) (PyData.noDict_hsm (PyData.hasDict_of_canLay _ (py_lay _ hf))) hg (by omega) (fun _ _ e => e) (fun h' u tk hk => ⟨.str _, H, I.kept hk, ⟨_, rfl⟩, kk⟩) hz
        | _ => simp [D.fine] at hf
end DL
namespace DL
open PySem PySem.Spec PyProof.Rows L2 Evl

/-! defs that are called where no repr runs: these may call repr -/
structure FnG (P : Program) (w : World) (K : PySem.W.Frag) (mg : Str → Option Value) (base : Heap) (CX : CXT) (k : Nat) (f : Addr) (fd : FuncData) (ps : List Str) (sp : Sp) : Prop where
  len : ∀ vs H Q E, sp vs H Q E → vs.length = ps.length
  go : ∀ (A : Around) (fr : List Env) (s : Shared) (H : Hp) (args : Args) (us : List Value) (vs : List V) (Q : VK) (E : XK), A.guards = some [] → Room k A → Env0 P w K mg base A fr s H → BindsTo s fd args (ps.zip us) → Vals vs us → sp vs H Q E →
    codeAny (model P w) A (.call (.ref f) args) (CR CX fr P w H s Q E) s
section
variable {P : Program} {w : World} {K : PySem.W.Frag} {mg : Str → Option Value} {base : Heap} {CX : CXT} {f : Addr} {fd : FuncData} {ps : List Str} {sp : Sp} {k : Nat}
theorem fng_ok (F : FnOk P w K mg base CX k f fd ps sp) : FnG P w K mg base CX k f fd ps sp :=
  ⟨F.len, fun A fr s H args us vs Q E _ hr he hb hv hs => F.run A fr s H args us vs Q E hr he hb hv hs⟩
theorem FnG.mono {j : Nat} (F : FnG P w K mg base CX j f fd ps sp) (h : j ≤ k) : FnG P w K mg base CX k f fd ps sp :=
  ⟨F.len, fun A fr s H args us vs Q E hg hr => F.go A fr s H args us vs Q E hg (hr.mono h)⟩
theorem fng_of {x qual : Str} {st : Stmt} {N : List Str} (F : Fun K x qual st f fd) (S : FnScope N ps (defScope st)) (len : ∀ vs H Q E, sp vs H Q E → vs.length = ps.length)
    (hbody : ∀ (cdv : Value) (A : Around) (fr : List Env) (s : Shared) (H : Hp) (vs : List V) (Q : VK) (E : XK), A.guards = some [] → Room k (A.deeper (envOfC qual (defScope st) s.heap.objs.size f cdv)) → sp vs H Q E →
      ∃ t, PSs (cxOf CX P w K mg base N qual (defScope st) f cdv A fr s H E) (defBody st) t ∧ t { nx := fun _ H' => Q .non H', rt := Q } (L2.start N vs) H) : FnG P w K mg base CX (k + 1) f fd ps sp := by
  obtain ⟨oc, od, kV, doc, pm, an, cdv, ct, osl, rfl, lk, hcd⟩ := F.ex
  refine ⟨len, fun A fr s H args us vs Q E hgd room env bnd rel hsp => ?_⟩
  have inK : K.In s.heap := env.mod.kin.keeps fun b o z => (env.bs b o z).1
  have noLim : s.heap.NoLimit := env.mod.nolimit.keeps fun b o z => (env.bs b o z).1
  refine codeAny_call_function room.depth (inK _ _ lk) rfl S.co S.gen rfl (PySem.W.codeRec_of inK hcd) (bnd _ _ _ _ ?_)
  refine wpAny_newFunctionEnv_cells S.kind (fun ⟨n, v⟩ hy => (S.par n (List.of_mem_zip hy).1).elim .inl fun z => .inr ⟨z, PySem.W.cellsFrom_some _ _ _ (.inl z)⟩) fun _ hEnv s1 born => ?_
  subst hEnv
  refine ⟨noLim.keeps born.toInCall.keep, codeAny_func ?_⟩
  obtain ⟨t, ht, hw⟩ := hbody cdv A fr s H vs Q E hgd (room.deeper _) hsp
  have I := inv_start (CX := CX) (E := E) S room.hd env (len _ _ _ _ hsp) rel born
  refine wpAny_mono (ht.run [] s1 _ H _ I hw) (fun fl s' hs => ?_) fun _ _ z => z
  cases fl with
  | next =>
    obtain ⟨σ', H', J, q⟩ := hs
    exact ⟨.non, H', J.os, J.bare, J.base, J.hok, rfl, q⟩
  | ret u =>
    obtain ⟨v, σ', H', J, rv, q⟩ := hs
    exact ⟨v, H', J.os, J.bare, J.base, J.hok, rv, q⟩
  | brk => exact hs.elim fun _ z => z.elim fun _ y => y.2.elim
  | cont => exact hs.elim fun _ z => z.elim fun _ y => y.2.elim
/-- the promise over data -/
theorem fng_d {x qual : Str} {st : Stmt} {N : List Str} {B : Bx} {S : FD} {t : DTS} (F : Fun K x qual st f fd) (Sc : FnScope N ps (defScope st)) (len : ∀ ds Q, S ds Q → ds.length = ps.length)
    (hbody : ∀ (cdv : Value) (A : Around) (fr : List Env) (s : Shared) (H : Hp) (E : XK), A.guards = some [] → Room k (A.deeper (envOfC qual (defScope st) s.heap.objs.size f cdv)) → PSsD (cxOf CX0 P w K mg base N qual (defScope st) f cdv A fr s H E).nox B (defBody st) t)
    (vc : ∀ ds Q, S ds Q → t { nx := fun _ => Q .non, rt := Q } (startD N.length ds)) : FnG P w K mg base CX0 (k + 1) f fd ps (spD K B S) := by
  refine fng_of F Sc (fun vs H Q E h => ?_) (fun cdv A fr s H vs Q E hg hr h => ⟨_, (hbody cdv A fr s H E hg hr).nox, ?_⟩)
  · obtain ⟨G, ds, R, j, hd, hs, _⟩ := h
    rw [hd.len]
    exact len ds R hs
  · obtain ⟨G, ds, R, j, hd, hs, kk⟩ := h
    refine ⟨G, H, G, startD N.length ds, _, Gr.refl j, start_ok hd, vc ds R hs, ⟨?_, ?_, ?_, ?_, ?_⟩⟩
    · exact fun σ δ G2 H2 q g _ s2 => kk .non .non G2 H2 q g .non
    · exact fun σ δ G2 H2 q g _ s2 => q.elim
    · exact fun σ δ G2 H2 q g _ s2 => q.elim
    · exact fun d v G2 H2 q g _ hd => kk d v G2 H2 q g hd
    · exact fun o v f G2 H2 q => q.elim
end
section
variable {X : Cx} {B : Bx} {CX : CXT} {k : Nat} {f : Addr} {fd : FuncData} {ps : List Str} {S : FD} {x : Str} {E : XK} {e : Expr} {es : List Expr} {pos fp : Pos}
theorem runG {sp : Sp} {pins : List (Addr × Obj)} {σ : L2.St} {H : Hp} {s : Shared} {Q : VK} {us : List Value} {vs : List V} (F : FnG X.prog X.w X.K X.mg X.base CX k f fd ps sp) (hgd : X.A.guards = some []) (hr : Room k X.A) (hb : Binds X.K fd ps []) (hx : Passes CX X E)
    (I : Inv X pins σ H s) (r : Vals vs us) (h : sp vs H Q E) : wpAny (model X.prog X.w) X.A (call (.ref f) us) (EP X pins σ Q) X.xe s := by
  have hl : (us ++ []).length = ps.length := by rw [List.append_nil, ← r.length]; exact F.len _ _ _ _ h
  have hbb := hb s us I.kIn hl
  rw [List.append_nil] at hbb
  refine wpAny_call (codeAny_mono (F.go X.A X.stack s H ⟨us, []⟩ us vs Q E hgd hr I.env0 hbb r h) fun res s' hq => ?_)
  match res, hq with
  | .error err, hq => exact hx pins σ H s err s' I hq
  | .ok (.ret u), hq => exact I.after hq
theorem pd_callG {ra : DA} (F : FnG X.prog X.w X.K X.mg X.base CX k f fd ps (spD X.K B S)) (hgd : X.A.guards = some []) (hr : Room k X.A) (hg : Gl X x) (hm : X.mg x = some (.ref f)) (hk : PySem.W.keepIn X.K (.ref f) = true)
    (hb : Binds X.K fd ps []) (hx : Passes CX X E) (ha : PAD X B (e :: es) ra) (hd : (x == ("__debug__" : Str)) = false := by decide) (he : starEach (e :: es) X.env = (false, eval e X.env) :: starEach es X.env := by rfl) (hpl : (backTo pos (starEach es X.env)).any (·.1) = false := by rfl) :
    PD X B (.Call (.Name x fp) (e :: es) [] pos) (dCall S ra) :=
  ⟨fun pins s σ H Q I q => wpAny_Call_Name_kw (ld_glob I hg hm (PySem.W.callWith_K (h₀ := X.base) I.ok.mod.kin hk (thn (ha.run pos pins s σ H _ I (liftC q)) fun us s1 ⟨vs, H1, I1, r, q1⟩ => ⟨I1.kIn, runG (E := E) F hgd hr hb hx I1 r q1⟩) he hpl) hd)⟩
end

/-! the law's end -/
theorem law_run {P : Program} {w : World} {K : PySem.W.Frag} {mg mb : Str → Option Value} {k : Nat} {fa a : Addr} {fd : FuncData} {x : Str} {sp : Sp} {s1 : Shared} {vs : List Value} {ns : List Int}
    (KX : K.In s1.heap) (hns : s1.heap.Ns mainGlobals mg) (hb : s1.heap.Ns builtinsNs mb) (hbb : ∀ x : Str, x ≠ "__name__" → mb x = bootBuiltins x) (hlim : s1.heap.NoLimit) (hgens : s1.gens = #[])
    (ha : s1.heap.get? a = some { cls := .type "list", data := .seq vs.toArray }) (hi : IntsAre vs ns) (hl : ns.length ≤ sizeLine) (room : Room k callerA)
    (F : ∀ base : Heap, K.In base → base.Ns mainGlobals mg → FnG P w K mg base CX0 k fa fd [x] sp) (hbind : ∀ (s : Shared) (u : Value), BindsTo s fd ⟨[u], []⟩ [(x, u)])
    (hsp : ∀ H : Hp, SqL K H a (ns.map V.int) → sp [.ref a] H (fun v _ => v = .bl true) fun _ _ _ => False) :
    codeAny (model P w) callerA (.call (.ref fa) ⟨[.ref a], []⟩) (fun r s' => r = .ok (.ret (.bool true)) ∧ OldK s1.heap s'.heap ∧ s'.os = s1.os ∧ AllBare s'.gens) s1 := by
  let o : Obj := { cls := .type "list", data := .seq vs.toArray }
  have rel := vals_of_ints hi
  -- the script is locked, unless it is one of the module's own things
  obtain ⟨H, only, seen, held⟩ : ∃ H : Hp, (∀ b, H b = none ∨ (b = a ∧ K.lookup a = none ∧ H b = some (.frz o (.lst (ns.map V.int))))) ∧ SqL K H a (ns.map V.int) ∧ HOk P w H s1.heap := by
    cases hk : K.lookup a with
    | some u =>
      have z := KX a u hk
      rw [ha] at z
      cases z
      exact ⟨fun _ => none, fun _ => .inl rfl, .inr ⟨_, vs.toArray, _, hk, rfl, rfl, rfl, by rw [List.size_toArray, hi.length]; exact hl, rel⟩, fun _ _ z => nomatch z⟩
    | none =>
      refine ⟨upd (fun _ => none) a (.frz o (.lst (ns.map V.int))), fun b => ?_, .inl (.inr ⟨o, upd_same⟩), fun b u z => ?_⟩
      · by_cases hba : b = a
        · subst hba; exact .inr ⟨rfl, rfl, upd_same⟩
        · exact .inl (upd_ne hba)
      · by_cases hba : b = a
        · subst hba
          rw [upd_same] at z
          cases z
          exact ⟨ha, by rw [List.length_map]; exact hl, vs, _, rel, ha⟩
        · rw [upd_ne hba] at z; cases z
  have free : ∀ {b : Addr} {u : Obj}, s1.heap.get? b = some u → (∃ es ep, u.data = .dict es ep) ∨ K.lookup b = some u → H b = none := fun {b u} e z => by
    rcases only b with q | ⟨rfl, hk, _⟩
    · exact q
    · rcases z with ⟨es, ep, z⟩ | z
      · rw [ha] at e; cases e; cases z
      · rw [hk] at z; cases z
  have ns_ : ∀ {b : Addr} {m : Str → Option Value}, s1.heap.Ns b m → (hidT s1.heap H).Ns b m := fun {b m} ⟨u, es, ep, e, d, r⟩ => ⟨u, es, ep, hidT_get e (free e (.inl ⟨es, ep, d⟩)), d, r⟩
  have kin : K.In (hidT s1.heap H) := fun b u e => hidT_get (KX b u e) (free (KX b u e) (.inr e))
  have md : Mod K mg (hidT s1.heap H) := ⟨kin, ns_ hns, ⟨mb, ns_ hb, hbb⟩, hlim.elim fun m z => ⟨m, ns_ z.1, z.2⟩⟩
  have env : Env0 P w K mg (hidT s1.heap H) callerA [] s1 H := ⟨rfl, md, fun _ _ e => of_hidT e, Nat.le_of_eq (hidT_size _ _), trivial, (fun b z => nomatch (show b ∈ ([] : List Addr) from z)), held, .of_eq hgens⟩
  refine codeAny_mono ((F _ kin (ns_ hns)).go callerA [] s1 H ⟨[.ref a], []⟩ [.ref a] [.ref a] _ _ rfl room env (hbind s1 (.ref a)) (.cons rfl .nil) (hsp H seen)) fun r s' h => ?_
  match r, h with
  | .error e, h => exact h.elim
  | .ok (.ret u), h =>
    obtain ⟨v, H', os, bare, un, held', r', q⟩ := h
    have q' : v = .bl true := q
    subst q'
    obtain rfl : u = Value.bool true := r'
    refine ⟨rfl, OldK.of_keep fun b ob e => ?_, os, bare⟩
    rcases only b with q | ⟨rfl, _, q⟩
    · exact un.keep b ob e q (fun z => nomatch (show b ∈ ([] : List Addr) from z)) (fun z => nomatch z)
    · have z2 := un.frzs b o _ q
      rw [ha] at e
      cases e
      exact (held' b _ z2).1
theorem walk_g {l : PySem.W.OpenLaw} {n k : Nat} {q : Program} {loose : List Str} {XP : (Str → Option Value) → Heap → Prop} {YP : World → Heap → Prop} {d : DefRec} {K : Params → PySem.W.Frag} {sp : World → Sp} {x : Str}
    (hn : l.most = some n) (hn2 : n ≤ sizeLine) (hdf : d.params.defaults = []) (hr : Room k callerA) (hY : ∀ (w : World) (h : Heap), YP w h → (K w.params).In h)
    (F : ∀ (w : World) (mg : Str → Option Value) (fa : Addr) (h : Heap), (K w.params).In h → h.Ns mainGlobals mg → mg d.name = some (.ref fa) →
      ∃ fd : FuncData, (∀ (s : Shared) (u : Value), BindsTo s fd ⟨[u], []⟩ [(x, u)]) ∧ ∀ base : Heap, (K w.params).In base → base.Ns mainGlobals mg → FnG l.prog w (K w.params) mg base CX0 k fa fd [x] (sp w))
    (hsp : ∀ (w : World) (H : Hp) (a : Addr) (ns : List Int), ns.length ≤ n → (∀ z ∈ ns, Builtin.Int.intBits z ≤ 1048576) → SqL (K w.params) H a (ns.map V.int) → sp w [.ref a] H (fun v _ => v = .bl true) fun _ _ _ => False) :
    PySem.W.WalkO q loose XP YP l.row.toRowW d [] (fun f vs => PySem.call f vs) :=
  Att.attach_callB hn hdf fun w _ s1 mg mb fa _ _ _ _ a vs ns G Y _ _ _ hmg hobj hints hlen hbits hg => by
    have KX := hY w _ Y
    obtain ⟨fd, hb, hF⟩ := F w mg fa _ KX G.T.g hmg
    exact law_run KX G.T.g G.T.b G.T.builtins G.T.nolimit hg hobj hints (Nat.le_trans hlen hn2) hr hF hb fun H hS => hsp w H a ns hlen hbits hS
end DL
namespace DL
open PySem PySem.Spec PyProof.Rows L2 Evl

section
variable {X : Cx} {B : Bx}
/-! numbers -/
def oI (f : Int → Int → D) : O2 := fun x y Q => match x, y with
  | .int i, .int j => Q (f i j)
  | _, _ => False
def oIc (c : Int → Int → Prop) (f : Int → Int → D) : O2 := fun x y Q => match x, y with
  | .int i, .int j => c i j ∧ Q (f i j)
  | _, _ => False
theorem op_int {g : Value → Value → Sem Value} {f : Int → Int → V} {f' : Int → Int → D} (h : OpR X g (rI0 f)) (hf : ∀ G i j, Dat X.K B G (f i j) (f' i j)) : OpR X g (rLift X.K B (oI f')) := by
  intro pins s σ H x y v u P I rx ry q
  obtain ⟨G, dx, dy, Q, j, hx, hy, hq, k⟩ := q
  cases hx with
  | int a =>
    cases hy with
    | int b => exact h pins s σ H _ _ v u P I rx ry ⟨a, b, rfl, rfl, k _ _ G H hq (Gr.refl j) (hf G a b)⟩
    | _ => exact hq.elim
  | _ => exact hq.elim
theorem op_intc {g : Value → Value → Sem Value} {c : Int → Int → Prop} {f : Int → Int → V} {f' : Int → Int → D} (h : OpR X g (rI c f)) (hf : ∀ G i j, Dat X.K B G (f i j) (f' i j)) : OpR X g (rLift X.K B (oIc c f')) := by
  intro pins s σ H x y v u P I rx ry q
  obtain ⟨G, dx, dy, Q, j, hx, hy, hq, k⟩ := q
  cases hx with
  | int a =>
    cases hy with
    | int b => exact h pins s σ H _ _ v u P I rx ry ⟨a, b, rfl, rfl, hq.1, k _ _ G H hq.2 (Gr.refl j) (hf G a b)⟩
    | _ => exact hq.elim
  | _ => exact hq.elim
def oSub : O2 := oI fun i j => .int (i - j)
def oMod : O2 := oIc (fun _ j => 0 < j) fun i j => .int (i % j)
def oDiv : O2 := oIc CDivW fun i j => .int (i / j)
def oLt : O2 := oI fun i j => .bl (decide (i < j))
def oLe : O2 := oI fun i j => .bl (decide (i ≤ j))
def oGt : O2 := oI fun i j => .bl (decide (j < i))
def oGe : O2 := oI fun i j => .bl (decide (j ≤ i))
theorem op_sub_d : OpR X (binaryOp .Sub) (rLift X.K B oSub) := op_int op_sub fun _ _ _ => .int _
theorem op_mod_d : OpR X (binaryOp .Mod) (rLift X.K B oMod) := op_intc op_mod fun _ _ _ => .int _
theorem op_div_d : OpR X (binaryOp .FloorDiv) (rLift X.K B oDiv) := op_intc op_fdivW fun _ _ _ => .int _
theorem op_lt_d : OpR X (compareOp .Lt) (rLift X.K B oLt) := op_int op_lt fun _ _ _ => .bl _
theorem op_le_d : OpR X (compareOp .LtE) (rLift X.K B oLe) := op_int op_le fun _ _ _ => .bl _
theorem op_gt_d : OpR X (compareOp .Gt) (rLift X.K B oGt) := op_int op_gt fun _ _ _ => .bl _
theorem op_ge_d : OpR X (compareOp .GtE) (rLift X.K B oGe) := op_int op_ge fun _ _ _ => .bl _
def oNeg : O1 := fun x Q => match x with
  | .int i => Q (.int (-i))
  | _ => False
theorem un_neg_d : UnR X (unaryOp .USub) (rLift1 X.K B oNeg) := by
  intro pins s σ H x v P I rx q
  obtain ⟨G, dx, Q, j, hx, hq, k⟩ := q
  cases hx with
  | int a => exact un_neg pins s σ H _ v P I rx ⟨a, rfl, k _ _ G H hq (Gr.refl j) (.int _)⟩
  | _ => exact hq.elim

/-! + -/
def oAdd : O2 := fun x y Q => match x, y with
  | .int i, .int j => Q (.int (i + j))
  | .str a, .str b => a.length + b.length ≤ sizeLine ∧ Q (.str (a ++ b))
  | .lst xs, .lst ys => xs.length + ys.length ≤ sizeLine ∧ Q (.lst (xs ++ ys))
  | .tup xs, .tup ys => (xs ≠ [] ∧ xs.length + ys.length ≤ sizeLine) ∧ Q (.tup (xs ++ ys))
  | _, _ => False
theorem op_add_d : OpR X (binaryOp .Add) (rLift X.K B oAdd) := by
  intro pins s σ H x y v u P I rx ry q
  obtain ⟨G, dx, dy, Q, j, hx, hy, hq, k⟩ := q
  cases hx with
  | int a =>
    cases hy with
    | int b => exact op_add pins s σ H _ _ v u P I rx ry ⟨a, b, rfl, rfl, k _ _ G H hq (Gr.refl j) (.int _)⟩
    | _ => exact hq.elim
  | str a =>
    cases hy with
    | str b => exact op_add_str pins s σ H _ _ v u P I rx ry ⟨a, b, rfl, rfl, hq.1, k _ _ G H hq.2 (Gr.refl j) (.str _)⟩
    | _ => exact hq.elim
  | lst h1 t1 =>
    cases hy with
    | lst h2 t2 =>
      refine op_cat pins s σ H _ _ v u P I rx ry ⟨_, _, _, _, rfl, rfl, j.ex _ _ h1, j.ex _ _ h2, by rw [t1.len, t2.len]; exact hq.1, fun p hp => ?_⟩
      exact k _ _ (upd G p _) _ hq.2 (Gr.new j hp) (.lst upd_same ((t1.append t2).mono (Ex.new (fresh_back j.ex hp))))
    | _ => exact hq.elim
  | tup h1 t1 =>
    cases hy with
    | tup h2 t2 =>
      obtain ⟨⟨n1, n2⟩, hq⟩ := hq
      refine op_catT pins s σ H _ _ v u P I rx ry ⟨_, _, _, _, rfl, rfl, tx j.ex h1, tx j.ex h2, fun z => ?_, by rw [t1.len, t2.len]; exact n2, fun z => ?_, fun _ p hp => ?_⟩
      · subst z; cases t1; exact n1 rfl
      · subst z; cases t2; rw [List.append_nil] at hq; exact k _ _ G H hq (Gr.refl j) (.tup h1 t1)
      · exact k _ _ (upd G p _) _ hq (Gr.new j hp) (.tup upd_same ((t1.append t2).mono (Ex.new (fresh_back j.ex hp))))
    | _ => exact hq.elim
  | _ => exact hq.elim

/-! * -/
def repS (x : Str) (n : Nat) : Str := ⟨(List.replicate n x.cps.toList).flatten.toArray⟩
def MulOkD (i j : Int) : Prop := CMul i j ∨ CMulW i j
def oMul : O2 := fun x y Q => match x, y with
  | .int i, .int j => MulOkD i j ∧ Q (.int (i * j))
  | .str a, .int n => (0 ≤ n ∧ n ≤ 100000 ∧ a.length ≤ 100) ∧ Q (.str (repS a n.toNat))
  | .lst xs, .int n => (-(2 ^ 63) ≤ n ∧ n < 2 ^ 63 ∧ xs.length * n.toNat ≤ sizeLine) ∧ Q (.lst (List.replicate n.toNat xs).flatten)
  | _, _ => False
theorem rep_fold (a : Array Nat) : ∀ (n : Nat) (acc : Array Nat), (List.replicate n a).foldl (· ++ ·) acc = acc ++ (List.replicate n a.toList).flatten.toArray
  | 0, acc => by simp
  | n + 1, acc => by
    rw [List.replicate_succ, List.replicate_succ, List.foldl_cons, rep_fold a n, List.flatten_cons, Array.append_assoc]
    congr 1
    apply Array.ext'
    simp
theorem op_mul_d : OpR X (binaryOp .Mult) (rLift X.K B oMul) := by
  intro pins s σ H x y v u P I rx ry q
  obtain ⟨G, dx, dy, Q, j, hx, hy, hq, k⟩ := q
  cases hx with
  | int a =>
    cases hy with
    | int b =>
      have kk := k _ _ G H hq.2 (Gr.refl j) (.int _)
      rcases hq.1 with c | c
      · exact op_mul pins s σ H _ _ v u P I rx ry ⟨a, b, rfl, rfl, c, kk⟩
      · exact op_mulW pins s σ H _ _ v u P I rx ry ⟨a, b, rfl, rfl, c, kk⟩
    | _ => exact hq.elim
  | str a =>
    cases hy with
    | int n =>
      obtain ⟨⟨n0, n1, al⟩, hq⟩ := hq
      obtain ⟨t, rfl⟩ := rx
      obtain ⟨t', rfl⟩ := ry
      have kk := k _ _ G H hq (Gr.refl j) (.str _)
      refine PySem.P.mul_str ?_ (fun h1 h2 => ?_) (fun h1 h2 => ?_) ?_
      · have h2 : ¬ n ≥ 2 ^ 63 := by omega
        have h3 : ¬ n < -(2 ^ 63 : Int) := by omega
        rw [decide_eq_false h2, decide_eq_false h3]; rfl
      · have h4 : (100 : Int) ≤ (2 ^ 63 - 1) / n := (Int.le_ediv_iff_mul_le (by omega)).mpr (by omega)
        omega
      · have h4 : a.length * n.toNat ≤ 100 * 100000 := Nat.mul_le_mul al (by omega)
        unfold Builtin.Str.tooLong
        rw [sizeLine_eq]
        exact decide_eq_false (by omega)
      · by_cases h1 : n < 1
        · rw [if_pos h1]
          have e : n.toNat = 0 := by omega
          rw [e] at kk
          exact ⟨by decide, .str _, H, I.tok _, ⟨_, rfl⟩, kk⟩
        · rw [if_neg h1]
          by_cases h2 : (n == 1 || a.length == 0) = true
          · rw [if_pos h2]
            refine ⟨.str _, H, I, ⟨_, rfl⟩, ?_⟩
            have e : repS a n.toNat = a := by
              rcases Bool.or_eq_true_iff.mp h2 with h3 | h3
              · have e : n.toNat = 1 := by have := eq_of_beq h3; omega
                rw [e]
                simp [repS]
              · have e : a.cps.toList = [] := by
                  have := eq_of_beq h3
                  exact List.eq_nil_of_length_eq_zero (by simpa [Str.length] using this)
                have e2 : a = ⟨#[]⟩ := by
                  cases a with
                  | mk c =>
                    have : c = #[] := by simpa using e
                    rw [this]
                rw [e2]
                simp [repS]
            rw [e] at kk
            exact kk
          · rw [if_neg h2]
            have e : (⟨(List.replicate n.toNat a.cps).foldl (· ++ ·) #[]⟩ : Str) = repS a n.toNat := by
              rw [rep_fold]
              simp [repS]
            rw [e]
            refine ⟨?_, .str _, H, I.tok _, ⟨_, rfl⟩, kk⟩
            have hl : (repS a n.toNat).length = n.toNat * a.length := by
              show (List.replicate n.toNat a.cps.toList).flatten.toArray.size = _
              rw [List.size_toArray, List.length_flatten, List.map_replicate, List.sum_replicate_nat]
              rfl
            have h4 : n.toNat * a.length ≤ 100000 * 100 := Nat.mul_le_mul (by omega) al
            rw [hl, sizeLine_eq]
            omega
    | _ => exact hq.elim
  | lst h1 t1 =>
    cases hy with
    | int n =>
      obtain ⟨⟨n0, n1, n2⟩, hq⟩ := hq
      refine op_rep pins s σ H _ _ v u P I rx ry ⟨_, _, _, rfl, rfl, j.ex _ _ h1, n0, n1, by rw [t1.len]; exact n2, fun p hp => ?_⟩
      exact k _ _ (upd G p _) _ hq (Gr.new j hp) (.lst upd_same ((t1.rep _).mono (Ex.new (fresh_back j.ex hp))))
    | _ => exact hq.elim
  | _ => exact hq.elim

/-! x[i] -/
def oIx : O2 := fun x y Q => match x, y with
  | .lst xs, .int i => match atI xs i with
    | some d => Q d
    | none => False
  | .tup xs, .int i => match atI xs i with
    | some d => Q d
    | none => False
  | .str a, .int i => a.length ≤ sizeLine ∧ match atI a.cps.toList i with
    | some c => Q (.str ⟨#[c]⟩)
    | none => False
  | _, _ => False
theorem Dats.at {K : PySem.W.Frag} {G : Hp} {vs : List V} {ds : List D} {i : Int} {d : D} (h : Dats K B G vs ds) (e : atI ds i = some d) : ∃ v, atI vs i = some v ∧ Dat K B G v d := by
  unfold atI at e ⊢
  rw [h.len]
  cases hi : ixN ds.length i with
  | none => rw [hi] at e; cases e
  | some m =>
    rw [hi] at e
    exact h.get e
theorem ix_d : IxR X (rLift X.K B oIx) := by
  intro va sl pins s σ H x y v u P I rx ry q hsub
  obtain ⟨G, dx, dy, Q, j, hx, hy, hq, k⟩ := q
  cases hx with
  | @lst a xs ds h1 t1 =>
    cases hy with
    | int i =>
      have hq : (match atI ds i with | some d => Q d | none => False) := hq
      cases e : atI ds i with
      | none => rw [e] at hq; exact hq.elim
      | some d =>
        rw [e] at hq
        obtain ⟨w, e2, hw⟩ := t1.at e
        exact ix_list va sl pins s σ H _ _ v u P I rx ry ⟨_, _, i, w, rfl, rfl, sq_of (j.ex _ _ h1), e2, k _ _ G H hq (Gr.refl j) hw⟩ hsub
    | _ => exact hq.elim
  | @tup a xs ds h1 t1 =>
    cases hy with
    | int i =>
      have hq : (match atI ds i with | some d => Q d | none => False) := hq
      cases e : atI ds i with
      | none => rw [e] at hq; exact hq.elim
      | some d =>
        rw [e] at hq
        obtain ⟨w, e2, hw⟩ := t1.at e
        exact ix_tup va sl pins s σ H _ _ v u P I rx ry ⟨_, _, i, w, rfl, rfl, tx j.ex h1, e2, k _ _ G H hq (Gr.refl j) hw⟩ hsub
    | _ => exact hq.elim
  | str a =>
    cases hy with
    | int i =>
      have hq : a.length ≤ sizeLine ∧ (match atI a.cps.toList i with | some c => Q (.str ⟨#[c]⟩) | none => False) := hq
      obtain ⟨hz, hq⟩ := hq
      cases e : atI a.cps.toList i with
      | none => rw [e] at hq; exact hq.elim
      | some c =>
        rw [e] at hq
        exact ix_str va sl pins s σ H _ _ v u P I rx ry ⟨a, i, c, rfl, rfl, hz, e, k _ _ G H hq (Gr.refl j) (.str _)⟩ hsub
    | _ => exact hq.elim
  | _ => exact hq.elim

/-! slices -/
abbrev DO := DS → (Option Int → Prop) → Prop
def liftO (K : PySem.W.Frag) (B : Bx) (r : DO) : TO := fun σ H P => ∃ (H0 G : Hp) (δ : DS) (Q : Option Int → Prop), Jn K B G H ∧ StOk K B H0 G H σ δ ∧ r δ Q ∧ ∀ o G2 H2, Q o → Gr K B G H G2 H2 → P o H2
abbrev POD (X : Cx) (B : Bx) (e : Option Expr) (r : DO) : Prop := PO X e (liftO X.K B r)
def noP : DO := fun _ Q => Q none
def aP (r : DE) : DO := fun δ Q => r δ fun x => match x with
  | .int i => Q (some i)
  | _ => False
theorem po_mono {e : Option Expr} {t t' : TO} (h : PO X e t) (m : ∀ σ H Q, t' σ H Q → t σ H Q) : PO X e t' := ⟨fun pins s σ H Q I hw => h.run pins s σ H Q I (m σ H Q hw)⟩
theorem pod_none : POD X B none noP := po_mono po_none fun σ H P q => by
  obtain ⟨H0, G, δ, Q, j, st, hr, k⟩ := q
  exact k none G H hr (Gr.refl j)
theorem pod_some {e : Expr} {r : DE} (h : PD X B e r) : POD X B (some e) (aP r) := po_mono (po_some h) fun σ H P q => by
  obtain ⟨H0, G, δ, Q, j, st, hr, k⟩ := q
  refine ⟨H0, G, δ, _, j, st, hr, fun d v G2 H2 q2 g2 h2 => ?_⟩
  cases h2 with
  | int i => exact ⟨i, rfl, k _ G2 H2 q2 g2⟩
  | _ => exact q2.elim
def cut {α : Type} (xs : List α) (lo hi : Option Int) : List α := (xs.drop (HT.sIx xs.length 0 lo)).take (HT.sIx xs.length xs.length hi - HT.sIx xs.length 0 lo)
def oSl (x : D) (lo hi : Option Int) (Q : D → Prop) : Prop := match x with
  | .lst xs => Q (.lst (cut xs lo hi))
  | .tup xs => Q (.tup (cut xs lo hi))
  | .str a => a.length ≤ sizeLine ∧ Q (.str ⟨(cut a.cps.toList lo hi).toArray⟩)
  | _ => False
def dSl (r : DE) (lo hi : DO) : DE := fun δ Q => r δ fun x => lo δ fun l => hi δ fun h => oSl x l h Q
theorem Dats.cut {K : PySem.W.Frag} {G : Hp} {vs : List V} {ds : List D} (h : Dats K B G vs ds) (lo hi : Option Int) : Dats K B G (cutV vs lo hi) (DL.cut ds lo hi) := by
  unfold cutV DL.cut
  rw [h.len]
  exact (h.drop _).take _
theorem sl_d : SlR X (fun x lo hi H P => ∃ (G : Hp) (dx : D) (Q : D → Prop), Jn X.K B G H ∧ Dat X.K B G x dx ∧ oSl dx lo hi Q ∧ ∀ d v G2 H2, Q d → Gr X.K B G H G2 H2 → Dat X.K B G2 v d → P v H2) := by
  intro pins s σ H x v vl vu lo hi sl P I rx r1 r2 r3 q
  obtain ⟨G, dx, Q, j, hx, hq, k⟩ := q
  cases hx with
  | lst h1 t1 =>
    refine sl_list pins s σ H _ v vl vu lo hi sl P I rx r1 r2 r3 ⟨_, _, rfl, sq_of (j.ex _ _ h1), fun p hp => ?_⟩
    exact k _ _ (upd G p _) _ hq (Gr.new j hp) (.lst upd_same ((t1.cut _ _).mono (Ex.new (fresh_back j.ex hp))))
  | tup h1 t1 =>
    refine sl_tupA pins s σ H _ v vl vu lo hi sl P I rx r1 r2 r3 ⟨_, _, rfl, tx j.ex h1, fun w => ?_, fun _ p hp => ?_⟩
    · rename_i a xs ds
      have e : cut ds lo hi = ds := by
        unfold DL.cut
        rw [← t1.len, w.1, w.2, List.drop_zero, Nat.sub_zero, t1.len, List.take_length]
      have hq : Q (.tup (cut ds lo hi)) := hq
      rw [e] at hq
      exact k _ _ G H hq (Gr.refl j) (.tup h1 t1)
    · exact k _ _ (upd G p _) _ hq (Gr.new j hp) (.tup upd_same ((t1.cut _ _).mono (Ex.new (fresh_back j.ex hp))))
  | str a =>
    exact sl_str pins s σ H _ v vl vu lo hi sl P I rx r1 r2 r3 ⟨a, rfl, hq.1, k _ _ G H hq.2 (Gr.refl j) (.str _)⟩
  | _ => exact hq.elim
theorem pd_slice {e : Expr} {lo hi : Option Expr} {r : DE} {rl rh : DO} {p2 pos : Pos} (he : PD X B e r) (hl : POD X B lo rl) (hh : POD X B hi rh) : PD X B (.Subscript e (.Slice lo hi none p2) pos) (dSl r rl rh) := pe_mono (pe_slice sl_d he hl hh) fun σ H P q => by
  obtain ⟨H0, G, δ, Q, j, st, hr, k⟩ := q
  refine ⟨H0, G, δ, _, j, st, hr, fun d v G2 H2 q2 g2 h2 => ?_⟩
  refine ⟨H0, G2, δ, _, g2.j, st.gr g2, q2, fun l G3 H3 q3 g3 => ?_⟩
  refine ⟨H0, G3, δ, _, g3.j, (st.gr g2).gr g3, q3, fun h G4 H4 q4 g4 => ?_⟩
  exact ⟨G4, d, Q, g4.j, h2.mono (g3.ex.trans g4.ex), q4, fun d' v' G5 H5 q5 g5 h5 => k d' v' G5 H5 q5 (((g2.trans g3).trans g4).trans g5) h5⟩

/-! in -/
def isFlat : D → Bool
  | .non => true
  | .bl _ => true
  | .int _ => true
  | .str _ => true
  | _ => false
def eqF : D → D → Bool
  | .non, .non => true
  | .bl a, .bl b => a == b
  | .bl a, .int b => (if a then 1 else 0) == b
  | .int a, .bl b => a == (if b then 1 else 0)
  | .int a, .int b => a == b
  | .str a, .str b => a == b
  | _, _ => false
def inD (x : D) (xs : List D) : Bool := xs.any fun y => eqF y x
theorem flat_v {K : PySem.W.Frag} {G : Hp} {v : V} {d : D} (h : Dat K B G v d) (f : isFlat d = true) : flatV v = true := by
  cases h <;> first | rfl | cases f
theorem eq_v {K : PySem.W.Frag} {G : Hp} {v w : V} {d e : D} (h : Dat K B G v d) (h2 : Dat K B G w e) (f : isFlat d = true) (f2 : isFlat e = true) : eqV v w = eqF d e := by
  cases h with
  | non => cases h2 <;> first | rfl | cases f2
  | bl _ => cases h2 <;> first | rfl | cases f2
  | int _ => cases h2 <;> first | rfl | cases f2
  | str _ => cases h2 <;> first | rfl | cases f2
  | _ => cases f
theorem flats_v {K : PySem.W.Frag} {G : Hp} : ∀ {vs : List V} {ds : List D}, Dats K B G vs ds → ds.all isFlat = true → vs.all flatV = true
  | _, _, .nil, _ => rfl
  | _, _, .cons h t, f => by
    have f' := Bool.and_eq_true_iff.mp (show (isFlat _ && List.all _ isFlat) = true from f)
    rw [List.all_cons, flat_v h f'.1, flats_v t f'.2]
    rfl
theorem in_v {K : PySem.W.Frag} {G : Hp} {v : V} {d : D} (hv : Dat K B G v d) (fv : isFlat d = true) : ∀ {vs : List V} {ds : List D}, Dats K B G vs ds → ds.all isFlat = true → inV v vs = inD d ds
  | _, _, .nil, _ => rfl
  | _, _, .cons h t, f => by
    have f' := Bool.and_eq_true_iff.mp (show (isFlat _ && List.all _ isFlat) = true from f)
    have ih := in_v hv fv t f'.2
    unfold inV inD at ih ⊢
    rw [List.any_cons, List.any_cons, ih, eq_v h hv f'.1 fv]
def oIn (neg : Bool) : O2 := fun x y Q => match y with
  | .str z => match x with
    | .str w => match w.cps.toList with
      | [c] => Q (.bl (if neg then !decide (c ∈ z.cps.toList) else decide (c ∈ z.cps.toList)))
      | _ => False
    | _ => False
  | .lst ys => (isFlat x = true ∧ ys.all isFlat = true) ∧ Q (.bl (if neg then !inD x ys else inD x ys))
  | .tup ys => (isFlat x = true ∧ ys.all isFlat = true) ∧ Q (.bl (if neg then !inD x ys else inD x ys))
  | .ktup ys => (isFlat x = true ∧ ys.all isFlat = true) ∧ Q (.bl (if neg then !inD x ys else inD x ys))
  | _ => False
theorem sign_of {w : Str} {c : Nat} (h : w.cps.toList = [c]) : w = ⟨#[c]⟩ := by
  cases w with
  | mk cp =>
    have : cp = #[c] := by
      have : cp.toList = [c] := h
      rw [← Array.toList_inj]
      exact this
    rw [this]
theorem op_in_d : OpR X (compareOp .In) (rLift X.K B (oIn false)) := by
  intro pins s σ H x y v u P I rx ry q
  obtain ⟨G, dx, dy, Q, j, hx, hy, hq, k⟩ := q
  cases hy with
  | str z =>
    cases hx with
    | str w =>
      have hq : (match w.cps.toList with | [c] => Q (.bl (decide (c ∈ z.cps.toList))) | _ => False) := hq
      cases e : w.cps.toList with
      | nil => rw [e] at hq; exact hq.elim
      | cons c r =>
        cases r with
        | cons _ _ => rw [e] at hq; exact hq.elim
        | nil =>
          rw [e] at hq
          exact op_in_sign pins s σ H _ _ v u P I rx ry ⟨c, z, by rw [sign_of e], rfl, k _ _ G H hq (Gr.refl j) (.bl _)⟩
    | _ => exact hq.elim
  | lst h1 t1 =>
    obtain ⟨⟨f1, f2⟩, hq⟩ := hq
    refine op_in_seq pins s σ H _ _ v u P I rx ry ⟨_, _, rfl, .inl (sq_of (j.ex _ _ h1)), flat_v hx f1, flats_v t1 f2, ?_⟩
    have e := in_v hx f1 t1 f2
    rw [e]
    exact k _ _ G H hq (Gr.refl j) (.bl _)
  | tup h1 t1 =>
    obtain ⟨⟨f1, f2⟩, hq⟩ := hq
    refine op_in_seq pins s σ H _ _ v u P I rx ry ⟨_, _, rfl, .inr (tx j.ex h1), flat_v hx f1, flats_v t1 f2, ?_⟩
    have e := in_v hx f1 t1 f2
    rw [e]
    exact k _ _ G H hq (Gr.refl j) (.bl _)
  | ktup h1 t1 =>
    obtain ⟨⟨f1, f2⟩, hq⟩ := hq
    refine op_in_seq pins s σ H _ _ v u P I rx ry ⟨_, _, rfl, .inr (ex_t j.ex h1), flat_v hx f1, flats_v t1 f2, ?_⟩
    have e := in_v hx f1 t1 f2
    rw [e]
    exact k _ _ G H hq (Gr.refl j) (.bl _)
  | _ => exact hq.elim

/-! built-in calls -/
def cLen : FD := fun ds Q => match ds with
  | [.lst xs] => Q (.int xs.length)
  | [.tup xs] => Q (.int xs.length)
  | [.str a] => a.length ≤ sizeLine ∧ Q (.int a.length)
  | _ => False
theorem call_len_d : CallR X (.builtin "len") (cLift X.K B cLen) := by
  intro pins s σ H vs us P I rv q
  obtain ⟨G, ds, Q, j, hd, hq, k⟩ := q
  cases hd with
  | nil => exact hq.elim
  | cons h1 h2 =>
    cases h2 with
    | cons _ _ => cases h1 <;> exact hq.elim
    | nil =>
      cases h1 with
      | lst a t => exact call_len_seq pins s σ H _ us P I rv ⟨_, _, rfl, .inl (sq_of (j.ex _ _ a)), by rw [t.len]; exact k _ _ G H hq (Gr.refl j) (.int _)⟩
      | tup a t => exact call_len_seq pins s σ H _ us P I rv ⟨_, _, rfl, .inr (tx j.ex a), by rw [t.len]; exact k _ _ G H hq (Gr.refl j) (.int _)⟩
      | str a => exact call_len_str pins s σ H _ us P I rv ⟨a, rfl, hq.1, k _ _ G H hq.2 (Gr.refl j) (.int _)⟩
      | _ => exact hq.elim
def cInt : FD := fun ds Q => match ds with
  | [.int i] => Q (.int i)
  | [.bl b] => Q (.int (if b then 1 else 0))
  | [.str a] => match intText? a with
    | some n => a.length ≤ 640 ∧ Q (.int n)
    | none => False
  | _ => False
theorem call_int_d : CallR X (.type "int") (cLift X.K B cInt) := by
  intro pins s σ H vs us P I rv q
  obtain ⟨G, ds, Q, j, hd, hq, k⟩ := q
  cases hd with
  | nil => exact hq.elim
  | cons h1 h2 =>
    cases h2 with
    | cons _ _ => cases h1 <;> exact hq.elim
    | nil =>
      cases h1 with
      | int i => exact call_int1 pins s σ H _ us P I rv (.inl ⟨i, rfl, k _ _ G H hq (Gr.refl j) (.int _)⟩)
      | bl b => exact call_int1 pins s σ H _ us P I rv (.inr ⟨b, rfl, k _ _ G H hq (Gr.refl j) (.int _)⟩)
      | str a =>
        have hq : (match intText? a with | some n => a.length ≤ 640 ∧ Q (.int n) | none => False) := hq
        cases e : intText? a with
        | none => rw [e] at hq; exact hq.elim
        | some n =>
          rw [e] at hq
          exact call_int_str pins s σ H _ us P I rv ⟨a, n, rfl, e, hq.1, k _ _ G H hq.2 (Gr.refl j) (.int _)⟩
      | _ => exact hq.elim
def cAbs : FD := fun ds Q => match ds with
  | [.int i] => Q (.int (if i < 0 then -i else i))
  | _ => False
theorem call_abs_d : CallR X (.builtin "abs") (cLift X.K B cAbs) := by
  intro pins s σ H vs us P I rv q
  obtain ⟨G, ds, Q, j, hd, hq, k⟩ := q
  cases hd with
  | nil => exact hq.elim
  | cons h1 h2 =>
    cases h2 with
    | cons _ _ => cases h1 <;> exact hq.elim
    | nil =>
      cases h1 with
      | int i => exact call_abs pins s σ H _ us P I rv ⟨i, rfl, k _ _ G H hq (Gr.refl j) (.int _)⟩
      | _ => exact hq.elim
def cMax : FD := fun ds Q => match ds with
  | [.int i, .int j] => Q (.int (if j > i then j else i))
  | _ => False
theorem call_max_d (hc : X.calm = true) : CallR X (.builtin "max") (cLift X.K B cMax) := by
  intro pins s σ H vs us P I rv q
  obtain ⟨G, ds, Q, j, hd, hq, k⟩ := q
  cases hd with
  | nil => exact hq.elim
  | cons h1 h2 =>
    cases h2 with
    | nil => cases h1 <;> exact hq.elim
    | cons h3 h4 =>
      cases h4 with
      | cons _ _ => cases h1 <;> cases h3 <;> exact hq.elim
      | nil =>
        cases h1 with
        | int i =>
          cases h3 with
          | int m => exact call_max2 hc pins s σ H _ us P I rv ⟨i, m, rfl, k _ _ G H hq (Gr.refl j) (.int _)⟩
          | _ => exact hq.elim
        | _ => exact hq.elim
/-! all, any of a list of truths -/
def blsOf : List D → Option (List Bool)
  | [] => some []
  | .bl b :: r => (blsOf r).map (b :: ·)
  | _ :: _ => none
theorem bls_v {K : PySem.W.Frag} {G : Hp} : ∀ {vs : List V} {ds : List D} {bs : List Bool}, Dats K B G vs ds → blsOf ds = some bs → vs = bs.map V.bl
  | _, _, bs, .nil, e => by cases e; rfl
  | _, _, bs, .cons h t, e => by
    cases h with
    | bl b =>
      have e : (blsOf _).map (b :: ·) = some bs := e
      cases h2 : blsOf _ with
      | none => rw [h2] at e; cases e
      | some cs =>
        rw [h2] at e
        cases e
        rw [bls_v t h2]
        rfl
    | _ => cases e
def cAll : FD := fun ds Q => match ds with
  | [.lst xs] => match blsOf xs with
    | some bs => Q (.bl (bs.all id))
    | none => False
  | _ => False
def cAny : FD := fun ds Q => match ds with
  | [.lst xs] => match blsOf xs with
    | some bs => Q (.bl (bs.any id))
    | none => False
  | _ => False
theorem call_all_d (hc : X.calm = true) : CallR X (.builtin "all") (cLift X.K B cAll) := by
  intro pins s σ H vs us P I rv q
  obtain ⟨G, ds, Q, j, hd, hq, k⟩ := q
  cases hd with
  | nil => exact hq.elim
  | cons h1 h2 =>
    cases h2 with
    | cons _ _ => cases h1 <;> exact hq.elim
    | nil =>
      cases h1 with
      | @lst a vs xs ha t =>
        have hq : (match blsOf xs with | some bs => Q (.bl (bs.all id)) | none => False) := hq
        cases e : blsOf xs with
        | none => rw [e] at hq; exact hq.elim
        | some bs =>
          rw [e] at hq
          have e2 := bls_v t e
          subst e2
          exact cr_all hc pins s σ H _ us P I rv ⟨a, bs, rfl, sq_of (j.ex _ _ ha), k _ _ G H hq (Gr.refl j) (.bl _)⟩
      | _ => exact hq.elim
theorem call_any_d (hc : X.calm = true) : CallR X (.builtin "any") (cLift X.K B cAny) := by
  intro pins s σ H vs us P I rv q
  obtain ⟨G, ds, Q, j, hd, hq, k⟩ := q
  cases hd with
  | nil => exact hq.elim
  | cons h1 h2 =>
    cases h2 with
    | cons _ _ => cases h1 <;> exact hq.elim
    | nil =>
      cases h1 with
      | @lst a vs xs ha t =>
        have hq : (match blsOf xs with | some bs => Q (.bl (bs.any id)) | none => False) := hq
        cases e : blsOf xs with
        | none => rw [e] at hq; exact hq.elim
        | some bs =>
          rw [e] at hq
          have e2 := bls_v t e
          subst e2
          exact cr_any hc pins s σ H _ us P I rv ⟨a, bs, rfl, sq_of (j.ex _ _ ha), k _ _ G H hq (Gr.refl j) (.bl _)⟩
      | _ => exact hq.elim
end
end DL
namespace DL
open PySem PySem.Spec PyProof.Rows L2 Evl

section
variable {X : Cx} {B : Bx} {e : Expr} {es : List Expr} {r : DE} {pos : Pos}
/-! isinstance with a built-in class -/
def tyN : D → String
  | .non => "NoneType"
  | .bl _ => "bool"
  | .int _ => "int"
  | .str _ => "str"
  | .lst _ => "list"
  | .tup _ => "tuple"
  | .dic _ => "dict"
  | .obj _ _ => ""
  | .bag => "list"
  | .ktup _ => "tuple"
def isi (T : String) (d : D) : Bool := match d with
  | .bl _ => T == "bool" || T == "int"
  | d => tyN d == T
def pureD : D → Bool
  | .obj _ _ => false
  | .bag => false
  | .ktup _ => false
  | _ => true
def dIsi (T : String) (r : DE) : DE := fun δ Q => r δ fun d => match pureD d with
  | true => Q (.bl (isi T d))
  | false => False
def TyY (K : PySem.W.Frag) (H : Hp) (v : V) (T : String) : Prop := TyX K H v (.type T) ∨ ∃ a od kvs, v = .ref a ∧ H a = some (.frz od (.dT kvs)) ∧ T = "dict"
def rIsiD (K : PySem.W.Frag) : List V → Hp → VK → Prop := fun xs H Q => ∃ (x c : V) (T : String) (u : Value) (b : Bool), xs = [x, c] ∧ ClsV c u ∧ TyY K H x T ∧ PySem.W.kitOne K (.type T) u = some b ∧ Q (.bl b) H
theorem call_isiD : CallR X (.builtin "isinstance") (rIsiD X.K) := by
  intro pins s σ H xs us Q I r h
  obtain ⟨x, c, T, u, b, rfl, k, ty, e, q⟩ := h
  rcases ty with ty | ⟨a, od, kvs, rfl, ha, rfl⟩
  · exact call_isi pins s σ H _ us Q I r ⟨x, c, _, u, b, rfl, k, ty, e, q⟩
  · obtain ⟨u1, u2, rfl, r1, r2⟩ := vals2 r
    have e2 := k.eq r2
    subst e2
    cases (show u1 = Value.ref a from r1)
    obtain ⟨_, _, _, _, _, o, es, ep, h1, h2, _⟩ := (show ObjOk X.prog X.w H s.heap a (.frz od (.dT kvs)) from I.hok a _ ha)
    exact PySem.W.kia_one PySem.W.kitx_dict I.kIn ⟨o, h1, h2.1⟩ e (fun z => nomatch z) fun tk => ⟨.bl b, H, I.tok tk, rfl, q⟩
theorem ty_d {K : PySem.W.Frag} {G H : Hp} {v : V} {d : D} (e : Ex G H) (h : Dat K B G v d) (p : pureD d = true) : TyY K H v (tyN d) := by
  cases h with
  | non => exact .inl (.base .non)
  | bl b => exact .inl (.base (.bl b))
  | int i => exact .inl (.base (.int i))
  | str x => exact .inl (.base (.str x))
  | lst h t => exact .inl (.base (.lst (e _ _ h)))
  | tup h t => exact .inl (.base (.tup (e _ _ h)))
  | dK h t => exact .inl (.fDict (e _ _ h))
  | dT h t => exact .inr ⟨_, _, _, rfl, e _ _ h, rfl⟩
  | bag => cases p
  | ktup _ _ => cases p
  | obj _ _ _ => cases p
def knownTy (T : String) : Prop := ∀ d : D, pureD d = true → kitB (tyN d) T = some (isi T d)
theorem known_int : knownTy "int"
  | .non, _ => (by decide +kernel : kitB "NoneType" "int" = some false)
  | .bl _, _ => (by decide +kernel : kitB "bool" "int" = some true)
  | .int _, _ => (by decide +kernel : kitB "int" "int" = some true)
  | .str _, _ => (by decide +kernel : kitB "str" "int" = some false)
  | .lst _, _ => (by decide +kernel : kitB "list" "int" = some false)
  | .tup _, _ => (by decide +kernel : kitB "tuple" "int" = some false)
  | .dic _, _ => (by decide +kernel : kitB "dict" "int" = some false)
  | .obj _ _, p => nomatch p
  | .bag, p => nomatch p
  | .ktup _, p => nomatch p
theorem known_bool : knownTy "bool"
  | .non, _ => (by decide +kernel : kitB "NoneType" "bool" = some false)
  | .bl _, _ => (by decide +kernel : kitB "bool" "bool" = some true)
  | .int _, _ => (by decide +kernel : kitB "int" "bool" = some false)
  | .str _, _ => (by decide +kernel : kitB "str" "bool" = some false)
  | .lst _, _ => (by decide +kernel : kitB "list" "bool" = some false)
  | .tup _, _ => (by decide +kernel : kitB "tuple" "bool" = some false)
  | .dic _, _ => (by decide +kernel : kitB "dict" "bool" = some false)
  | .obj _ _, p => nomatch p
  | .bag, p => nomatch p
  | .ktup _, p => nomatch p
theorem known_str : knownTy "str"
  | .non, _ => (by decide +kernel : kitB "NoneType" "str" = some false)
  | .bl _, _ => (by decide +kernel : kitB "bool" "str" = some false)
  | .int _, _ => (by decide +kernel : kitB "int" "str" = some false)
  | .str _, _ => (by decide +kernel : kitB "str" "str" = some true)
  | .lst _, _ => (by decide +kernel : kitB "list" "str" = some false)
  | .tup _, _ => (by decide +kernel : kitB "tuple" "str" = some false)
  | .dic _, _ => (by decide +kernel : kitB "dict" "str" = some false)
  | .obj _ _, p => nomatch p
  | .bag, p => nomatch p
  | .ktup _, p => nomatch p
theorem known_list : knownTy "list"
  | .non, _ => (by decide +kernel : kitB "NoneType" "list" = some false)
  | .bl _, _ => (by decide +kernel : kitB "bool" "list" = some false)
  | .int _, _ => (by decide +kernel : kitB "int" "list" = some false)
  | .str _, _ => (by decide +kernel : kitB "str" "list" = some false)
  | .lst _, _ => (by decide +kernel : kitB "list" "list" = some true)
  | .tup _, _ => (by decide +kernel : kitB "tuple" "list" = some false)
  | .dic _, _ => (by decide +kernel : kitB "dict" "list" = some false)
  | .obj _ _, p => nomatch p
  | .bag, p => nomatch p
  | .ktup _, p => nomatch p
theorem known_tuple : knownTy "tuple"
  | .non, _ => (by decide +kernel : kitB "NoneType" "tuple" = some false)
  | .bl _, _ => (by decide +kernel : kitB "bool" "tuple" = some false)
  | .int _, _ => (by decide +kernel : kitB "int" "tuple" = some false)
  | .str _, _ => (by decide +kernel : kitB "str" "tuple" = some false)
  | .lst _, _ => (by decide +kernel : kitB "list" "tuple" = some false)
  | .tup _, _ => (by decide +kernel : kitB "tuple" "tuple" = some true)
  | .dic _, _ => (by decide +kernel : kitB "dict" "tuple" = some false)
  | .obj _ _, p => nomatch p
  | .bag, p => nomatch p
  | .ktup _, p => nomatch p
theorem known_dict : knownTy "dict"
  | .non, _ => (by decide +kernel : kitB "NoneType" "dict" = some false)
  | .bl _, _ => (by decide +kernel : kitB "bool" "dict" = some false)
  | .int _, _ => (by decide +kernel : kitB "int" "dict" = some false)
  | .str _, _ => (by decide +kernel : kitB "str" "dict" = some false)
  | .lst _, _ => (by decide +kernel : kitB "list" "dict" = some false)
  | .tup _, _ => (by decide +kernel : kitB "tuple" "dict" = some false)
  | .dic _, _ => (by decide +kernel : kitB "dict" "dict" = some true)
  | .obj _ _, p => nomatch p
  | .bag, p => nomatch p
  | .ktup _, p => nomatch p
theorem pd_isi {T : String} {tn : Str} {p q : Pos} (kn : knownTy T) (hg : Gl X "isinstance") (hm : X.mg "isinstance" = none) (hgT : Gl X tn) (hmT : X.mg tn = none) (hvT : bootBuiltins tn = some (.type T)) (he : PD X B e r) (hn : tn ≠ "__name__" := by decide) (hdb : (tn == ("__debug__" : Str)) = false := by decide)
    (hs1 : starEach [e, .Name tn q] X.env = (false, eval e X.env) :: starEach [.Name tn q] X.env := by rfl) (hs2 : starEach [.Name tn q] X.env = (false, eval (.Name tn q) X.env) :: starEach [] X.env := by rfl) (hpl : (backTo pos (starEach [.Name tn q] X.env)).any (·.1) = false := by rfl) :
    PD X B (.Call (.Name "isinstance" p) [e, .Name tn q] [] pos) (dIsi T r) := pe_mono (pe_callB call_isiD hg hm (by decide +kernel) (pa_cons he (pa_cons (pe_bltn (v := .ty T) hgT hmT hvT rfl hn hdb) pa_nil hs2) hs1) (by decide) (by decide) hs1 hpl) fun σ H P q => by
  obtain ⟨H0, G, δ, Q, j, st, hr, k⟩ := q
  refine ⟨H0, G, δ, _, j, st, hr, fun d v G2 H2 q2 g2 h2 => ?_⟩
  have q2 : (match pureD d with | true => Q (.bl (isi T d)) | false => False) := q2
  cases hp : pureD d with
  | false => rw [hp] at q2; exact q2.elim
  | true =>
    rw [hp] at q2
    exact ⟨v, .ty T, _, .type T, _, rfl, .ty T, ty_d g2.j.ex h2 hp, kit_ty (kn d hp), k _ _ G2 H2 q2 g2 (.bl _)⟩

/-! methods of built-in types -/
abbrev OM := D → List D → (D → Prop) → Prop
def mLift (K : PySem.W.Frag) (B : Bx) (r : OM) : V → List V → Hp → VK → Prop := fun x xs H P => ∃ (G : Hp) (d : D) (ds : List D) (Q : D → Prop), Jn K B G H ∧ Dat K B G x d ∧ Dats K B G xs ds ∧ r d ds Q ∧ ∀ d v G2 H2, Q d → Gr K B G H G2 H2 → Dat K B G2 v d → P v H2
def isT (T : String) : D → Bool
  | .str _ => T == "str"
  | .int _ => T == "int"
  | .lst _ => T == "list"
  | _ => false
def dMt (T : String) (m : OM) (r : DE) (ra : DA) : DE := fun δ Q => r δ fun x => match isT T x with
  | true => ra δ fun ds => m x ds Q
  | false => False
theorem tyv_d {K : PySem.W.Frag} {G H : Hp} {T : String} {v : V} {d : D} (e : Ex G H) (h : Dat K B G v d) (t : isT T d = true) : tyV K T v H := by
  cases h with
  | str x => exact eq_of_beq t
  | int i => exact eq_of_beq t
  | lst h _ => exact .inl ⟨eq_of_beq t, _, sq_of (e _ _ h)⟩
  | _ => cases t
theorem pd_bm {T id : String} {m : OM} {ra : DA} {o : Expr} {name : Str} {apos : Pos} (pa : PlainAttrs T) (slot : Slot T name id) (hty : typeOf (.builtin id) = pure (.type "method_descriptor")) (hm : MtR X id (mLift X.K B m)) (ho : PD X B o r) (ha : PAD X B (e :: es) ra)
    (hbase : attributeBase o name X.env (eval o X.env) = eval o X.env := by rfl)
    (hfew : ((backTo pos (starEach (e :: es) X.env)).all (fun x => !x.1) && (backToKw pos (keywordEach [] X.env)).all (fun x => x.1.isSome) && decide ((e :: es).length + ([] : List Keyword).length + (if ([] : List Keyword).isEmpty then 0 else 1) < 30)) = true := by rfl)
    (hline : (apos.endLine == pos.line) = true := by rfl) (hs : starEach (e :: es) X.env = (false, eval e X.env) :: starEach es X.env := by rfl) (hplain : (backTo pos (starEach es X.env)).any (·.1) = false := by rfl) :
    PD X B (.Call (.Attribute o name apos) (e :: es) [] pos) (dMt T m r ra) := pe_mono (pe_bm pa slot hty hm ho ha hbase hfew hline hs hplain) fun σ H P q => by
  obtain ⟨H0, G, δ, Q, j, st, hr, k⟩ := q
  refine ⟨H0, G, δ, _, j, st, hr, fun d v G2 H2 q2 g2 h2 => ?_⟩
  have q2 : (match isT T d with | true => ra δ fun ds => m d ds Q | false => False) := q2
  cases ht : isT T d with
  | false => rw [ht] at q2; exact q2.elim
  | true =>
    rw [ht] at q2
    refine ⟨tyv_d g2.j.ex h2 ht, H0, G2, δ, _, g2.j, st.gr g2, q2, fun ds vs G3 H3 q3 g3 h3 => ?_⟩
    exact ⟨G3, d, ds, Q, g3.j, h2.mono g3.ex, h3, q3, fun d' v' G4 H4 q4 g4 h4 => k d' v' G4 H4 q4 ((g2.trans g3).trans g4) h4⟩
theorem pd_bm0 {T id : String} {m : OM} {o : Expr} {name : Str} {apos : Pos} (pa : PlainAttrs T) (slot : Slot T name id) (hty : typeOf (.builtin id) = pure (.type "method_descriptor")) (hm : MtR X id (mLift X.K B m)) (ho : PD X B o r)
    (hbase : attributeBase o name X.env (eval o X.env) = eval o X.env := by rfl) (hline : (apos.endLine == pos.line) = true := by rfl) :
    PD X B (.Call (.Attribute o name apos) [] [] pos) (dMt T m r dNil) := pe_mono (pe_bm0 pa slot hty hm ho hbase hline) fun σ H P q => by
  obtain ⟨H0, G, δ, Q, j, st, hr, k⟩ := q
  refine ⟨H0, G, δ, _, j, st, hr, fun d v G2 H2 q2 g2 h2 => ?_⟩
  have q2 : (match isT T d with | true => dNil δ fun ds => m d ds Q | false => False) := q2
  cases ht : isT T d with
  | false => rw [ht] at q2; exact q2.elim
  | true =>
    rw [ht] at q2
    exact ⟨tyv_d g2.j.ex h2 ht, G2, d, [], Q, g2.j, h2, .nil, q2, fun d' v' G4 H4 q4 g4 h4 => k d' v' G4 H4 q4 (g2.trans g4) h4⟩
/-! join -/
def strsOf : List D → Option (List Str)
  | [] => some []
  | .str x :: r => (strsOf r).map (x :: ·)
  | _ :: _ => none
theorem strs_v {K : PySem.W.Frag} {G : Hp} : ∀ {vs : List V} {ds : List D} {xs : List Str}, Dats K B G vs ds → strsOf ds = some xs → vs = xs.map V.str
  | _, _, xs, .nil, e => by cases e; rfl
  | _, _, xs, .cons h t, e => by
    cases h with
    | str b =>
      have e : (strsOf _).map (b :: ·) = some xs := e
      cases h2 : strsOf _ with
      | none => rw [h2] at e; cases e
      | some cs =>
        rw [h2] at e
        cases e
        rw [strs_v t h2]
        rfl
    | _ => cases e
def mJoin : OM := fun x ds Q => match x, ds with
  | .str a, [.lst xs] => match strsOf xs with
    | some ys => (ys.map (·.length)).sum + ys.length * a.length ≤ 16777216 ∧ Q (.str (Txt.join a ys))
    | none => False
  | _, _ => False
theorem mt_join_d : MtR X "str.join" (mLift X.K B mJoin) := by
  intro pins s σ H x xs v us P I rx rs q
  obtain ⟨G, d, ds, Q, j, hx, hd, hq, k⟩ := q
  cases hx with
  | str a =>
    cases hd with
    | nil => exact hq.elim
    | cons h1 h2 =>
      cases h2 with
      | cons _ _ => cases h1 <;> exact hq.elim
      | nil =>
        cases h1 with
        | @lst p vs ys hp t =>
          have hq : (match strsOf ys with | some zs => (zs.map (·.length)).sum + zs.length * a.length ≤ 16777216 ∧ Q (.str (Txt.join a zs)) | none => False) := hq
          cases e : strsOf ys with
          | none => rw [e] at hq; exact hq.elim
          | some zs =>
            rw [e] at hq
            have e2 := strs_v t e
            subst e2
            exact mt_join pins s σ H _ _ v us P I rx rs ⟨a, p, zs, rfl, rfl, .inl (sq_of (j.ex _ _ hp)), hq.1, k _ _ G H hq.2 (Gr.refl j) (.str _)⟩
        | _ => exact hq.elim
  | _ => exact hq.elim
/-! list.count of flat things -/
def mCount : OM := fun x ds Q => match x, ds with
  | .lst xs, [y] => (isFlat y = true ∧ xs.all isFlat = true) ∧ Q (.int ((xs.countP fun z => eqF z y : Nat) : Int))
  | _, _ => False
theorem count_u {K : PySem.W.Frag} {G : Hp} {x : V} {d : D} (hx : Dat K B G x d) (fx : isFlat d = true) : ∀ {vs : List V} {ds : List D} {us : List Value}, Dats K B G vs ds → Vals vs us → ds.all isFlat = true → us.countP (eqU x) = ds.countP fun z => eqF z d
  | _, _, _, .nil, .nil, _ => rfl
  | _, _, _, .cons h t, .cons r s, f => by
    have f' := Bool.and_eq_true_iff.mp (show (isFlat _ && List.all _ isFlat) = true from f)
    rw [List.countP_cons, List.countP_cons, count_u hx fx t s f'.2, eqU_of r (flat_v h f'.1), eq_v h hx f'.1 fx]
theorem mt_count_d : MtR X "list.count" (mLift X.K B mCount) := by
  intro pins s σ H x xs v us P I rx rs q
  obtain ⟨G, d, ds, Q, j, hx, hd, hq, k⟩ := q
  cases hx with
  | @lst p vs ys hp t =>
    cases hd with
    | nil => exact hq.elim
    | cons h1 h2 =>
      cases h2 with
      | cons _ _ => exact hq.elim
      | nil =>
        obtain ⟨⟨f1, f2⟩, hq⟩ := hq
        cases rx
        obtain ⟨u, rfl, ru⟩ := rs.one
        obtain ⟨its, rv, ⟨⟨cls, dd, data, sl⟩, n, ho, hc, hdn, hdat⟩, hlen⟩ := I.list (sq_of (K := X.K) (j.ex _ _ hp))
        simp only at hc hdat
        subst hc hdat
        refine call_meets PySem.F.slot_list_count ⟨_, ho, rfl⟩ PySem.F.entry_list_count (PySem.F.args_list_count_2 _ _)
          (SeqAt.list_countAt p its.toArray n dd sl u (eqU _)) ⟨ho, fun y hy => mem_eqAt ru (flat_v h1 f1) rv (flats_v t f2) y (by simpa using hy), ?_⟩
        refine ⟨.int _, H, I.tok _, ⟨s.toks, ?_⟩, k _ _ G H hq (Gr.refl j) (.int _)⟩
        rw [count_u h1 f1 t rv f2]
  | _ => exact hq.elim

/-! tuple(xs) -/
def cTuple : FD := fun ds Q => match ds with
  | [.lst xs] => Q (.tup xs)
  | [.tup xs] => Q (.tup xs)
  | _ => False
theorem call_tuple_d : CallR X (.type "tuple") (cLift X.K B cTuple) := by
  intro pins s σ H vs us P I rv q
  obtain ⟨G, ds, Q, j, hd, hq, k⟩ := q
  cases hd with
  | nil => exact hq.elim
  | cons h1 h2 =>
    cases h2 with
    | cons _ _ => cases h1 <;> exact hq.elim
    | nil =>
      cases h1 with
      | lst a t => exact call_tuple_of pins s σ H _ us P I rv ⟨_, _, rfl, .inl ⟨sq_of (j.ex _ _ a), fun p hp => k _ _ (upd G p _) _ hq (Gr.new j hp) (.tup upd_same (t.mono (Ex.new (fresh_back j.ex hp))))⟩⟩
      | tup a t => exact call_tuple_of pins s σ H _ us P I rv ⟨_, _, rfl, .inr ⟨tx j.ex a, k _ _ G H hq (Gr.refl j) (.tup a t)⟩⟩
      | _ => exact hq.elim

/-! a, b = a list -/
def gL (n : Nat) (gs : DGs) : DG := fun d δ Q => match d with
  | .lst ds => match decide (ds.length = n) with
    | true => gs ds δ Q
    | false => False
  | _ => False
theorem pgd_unl {k n : Nat} {gs : DGs} {is : List Nat} (hc : X.calm = true) (h : PGsD X B es is gs) (hn : (assignEach es X.env).length = n := by rfl) (hst : (assignEach es X.env).findIdx? (·.1) = none := by rfl) : PGD X B (.Tuple es k pos) is (gL n gs) := pg_mono (pg_unl hc h hn hst) fun v σ H R q => by
  obtain ⟨H0, G, δ, d, Q, j, s, hd, h, k⟩ := q
  cases hd with
  | @lst a xs ds h3 h4 =>
    have h : (match decide (ds.length = n) with | true => gs ds δ Q | false => False) := h
    cases hz : decide (ds.length = n) with
    | false => rw [hz] at h; exact h.elim
    | true =>
      rw [hz] at h
      exact ⟨a, xs, rfl, sq_of (j.ex _ _ h3), h4.len.trans (of_decide_eq_true hz), H0, G, δ, ds, Q, j, s, h4, h, k⟩
  | _ => exact h.elim

/-! f(*xs, y) -/
def dStar (r : DE) (ra : DA) : DA := fun δ Q => r δ fun x => match x with
  | .tup xs => ra δ fun ys => Q (xs ++ ys)
  | .lst xs => ra δ fun ys => Q (xs ++ ys)
  | _ => False
theorem pad_star {ra : DA} {p : Pos} (h : PD X B e r) (ha : PAD X B es ra) (hs : starEach (.Starred e p :: es) X.env = (true, eval e X.env) :: starEach es X.env := by rfl) : PAD X B (.Starred e p :: es) (dStar r ra) := pa_mono (StX.pa_star h ha hs) fun σ H P q => by
  obtain ⟨H0, G, δ, Q, j, st, hr, k⟩ := q
  refine ⟨H0, G, δ, _, j, st, hr, fun d v G2 H2 q2 g2 h2 => ?_⟩
  cases h2 with
  | tup a t =>
    refine ⟨_, _, rfl, .inl (tx g2.j.ex a), H0, G2, δ, _, g2.j, st.gr g2, q2, fun ds vs G3 H3 q3 g3 h3 => ?_⟩
    exact k _ _ G3 H3 q3 (g2.trans g3) ((t.mono g3.ex).append h3)
  | lst a t =>
    refine ⟨_, _, rfl, .inr (sq_of (g2.j.ex _ _ a)), H0, G2, δ, _, g2.j, st.gr g2, q2, fun ds vs G3 H3 q3 g3 h3 => ?_⟩
    exact k _ _ G3 H3 q3 (g2.trans g3) ((t.mono g3.ex).append h3)
  | _ => exact q2.elim
theorem args_more {M : Model} {A : Around} {E : Value → Shared → Prop} {s : Shared} {f : Value} {x y : Bool × Sem Value} {rest : List (Bool × Sem Value)} {Q : Args → Shared → Prop}
    (h : wpAny M A (spliced (x :: y :: rest)) (fun vs s' => Q ⟨vs, []⟩ s') E s) : wpAny M A (evalArgs f true (x :: y :: rest) []) Q E s := by
  unfold evalArgs
  obtain ⟨b, t⟩ := x
  cases b <;>
    exact wpAny_bind (wpAny_mono h (fun vs s' q => wpAny_holding (wpAny_bind (wpAny_pure (wpAny_bind (wpAny_pure (wpAny_pure q)))))) fun _ _ z => z)
theorem pd_callStar {CX : CXT} {k : Nat} {f : Addr} {fd : FuncData} {ps : List Str} {S : FD} {x : Str} {E : XK} {ra : DA} {fp p : Pos} {e2 : Expr} (F : FnOk X.prog X.w X.K X.mg X.base CX k f fd ps (spD X.K B S)) (hr : Room k X.A) (hg : Gl X x) (hm : X.mg x = some (.ref f)) (hk : PySem.W.keepIn X.K (.ref f) = true)
    (hb : Binds X.K fd ps []) (hx : Passes CX X E) (ha : PAD X B (.Starred e p :: e2 :: es) ra) (hd : (x == ("__debug__" : Str)) = false := by decide)
    (he : starEach (.Starred e p :: e2 :: es) X.env = (true, eval e X.env) :: (false, eval e2 X.env) :: starEach es X.env := by rfl) :
    PD X B (.Call (.Name x fp) (.Starred e p :: e2 :: es) [] pos) (dCall S ra) :=
  ⟨fun pins s σ H Q I q => wpAny_Call_Name_kw (ld_glob I hg hm (by
    have h := ha.run pos pins s σ H _ I (liftC q)
    rw [he] at h ⊢
    refine PySem.W.ks_call rfl (PySem.W.keeps_K hk) (args_more (thn h fun us s1 ⟨vs, H1, I1, r, q1⟩ => ⟨I1.kIn, ?_⟩))
    exact run_fn F hr hb (.nil) hx I1 r (by rw [List.append_nil]; exact q1)) hd)⟩
end
end DL
namespace DL
open PySem PySem.Spec PyProof.Rows L2 Evl

theorem obj_slt {K : PySem.W.Frag} {B : Bx} {G H : Hp} {a dx : Addr} {C : Nat} {vs : List V} (e : Ex G H) (h1 : G a = some (SlX.SlO a (B.ct C) dx (vs.map some))) (h2 : G dx = some (.xd []))   : SlX.Slt H a (B.ct C) dx (vs.map some) := .inr ⟨e _ _ h1, e _ _ h2⟩
section
variable {X : Cx} {B : Bx} {e o : Expr} {es : List Expr} {r : DE} {pos : Pos} {p g : Addr} {f m : Str} {i k C : Nat} {S : FD} {ra : DA} {E : XK}
/-! fields -/
def dFld (C : Nat) (i : Nat) (r : DE) : DE := fun δ Q => r δ fun d => match d with
  | .obj C' fs => C' = C ∧ (match fs[i]? with
    | some d => Q d
    | none => False)
  | _ => False
theorem pd_fld (c : SlX.SCls X.K (B.ct C)) (t : SlX.Slot1 X.K (B.ct C) f p i) (he : PD X B e r) (hb : attributeBase e f X.env (eval e X.env) = eval e X.env := by rfl) : PD X B (.Attribute e f pos) (dFld C i r) := pe_mono (SlX.pe_sl he hb) fun σ H P q => by
  obtain ⟨H0, G, δ, Q, j, st, hr, k⟩ := q
  refine ⟨H0, G, δ, _, j, st, hr, fun d v G2 H2 q2 g2 h2 => ?_⟩
  cases h2 with
  | @obj a dx C' vs fs h3 h4 h5 =>
    obtain ⟨rfl, q2⟩ := q2
    cases hf : fs[i]? with
    | none => rw [hf] at q2; exact q2.elim
    | some d =>
      rw [hf] at q2
      obtain ⟨u, e1, e2⟩ := h5.get hf
      exact ⟨a, B.ct C', dx, p, vs.map some, i, u, rfl, obj_slt (K := X.K) (B := B) g2.j.ex h3 h4, c, t, by rw [List.getElem?_map, e1]; rfl, k _ _ G2 H2 q2 g2 e2⟩
  | _ => exact q2.elim
/-! properties, methods -/
def isO (C : Nat) (d : D) : Prop := match d with
  | .obj C' _ => C' = C
  | _ => False
def dProp (C : Nat) (S : FD) (r : DE) : DE := fun δ Q => r δ fun d => isO C d ∧ S [d] Q
theorem pd_prop (c : SlX.SCls X.K (B.ct C)) (at_ : PySem.W.findIn X.K (.ref (B.ct C)) f = some (some (.ref p))) (get : PySem.W.specialIn X.K (.ref p) "__get__" = some (some (.builtin "property.__get__")))
    (tk : PySem.W.takesIn X.K (.ref p) = some true) (rc : ∃ rest, PySem.W.recIn X.K p "property" = some (.ref g :: rest)) (F : FnR X.prog X.w X.K X.mg X.base CX0 k g (spD X.K B S)) (hr : Room (k + 1) X.A) (he : PD X B e r) (hb : attributeBase e f X.env (eval e X.env) = eval e X.env := by rfl) :
    PD X B (.Attribute e f pos) (dProp C S r) := pe_mono (SlX.pe_propSl (E := E0) he c at_ get tk rc F hr (fun _ _ _ _ z => z) hb) fun σ H P q => by
  obtain ⟨H0, G, δ, Q, j, st, hr, k⟩ := q
  refine ⟨H0, G, δ, _, j, st, hr, fun d v G2 H2 q2 g2 h2 => ?_⟩
  obtain ⟨ho, q2⟩ := q2
  cases h2 with
  | @obj a dx C' vs fs h3 h4 h5 =>
    have ho : C' = C := ho
    subst ho
    exact ⟨a, dx, vs.map some, rfl, obj_slt (K := X.K) (B := B) g2.j.ex h3 h4, G2, _, Q, g2.j, .cons (.obj h3 h4 h5) .nil, q2, fun d v G3 H3 q3 g3 h3 => k d v G3 H3 q3 (g2.trans g3) h3⟩
  | _ => exact ho.elim
def dMeth (C : Nat) (S : FD) (r : DE) (ra : DA) : DE := fun δ Q => r δ fun d => isO C d ∧ ra δ fun ds => S (d :: ds) Q
theorem pd_meth {pl : Sem Bool} {apos : Pos} (c : SlX.SCls X.K (B.ct C)) (hm : Meth X.K (B.ct C) m g) (F : FnR X.prog X.w X.K X.mg X.base CX0 k g (spD X.K B S)) (hr : Room k X.A) (he : PD X B o r) (ha : PAD X B (e :: es) ra)
    (hst : starEach (e :: es) X.env = (false, eval e X.env) :: starEach es X.env := by rfl) (hpl : (backTo pos (starEach es X.env)).any (·.1) = false := by rfl)
    (ht : eval (.Call (.Attribute o m apos) (e :: es) [] pos) X.env = (do let ov ← eval o X.env; standAt apos.atName; let (f, first) ← holding [ov] (getMethod ov m pl); callWith pos f first (backTo pos (starEach (e :: es) X.env)) (backToKw pos (keywordEach [] X.env))) := by rfl) :
    PD X B (.Call (.Attribute o m apos) (e :: es) [] pos) (dMeth C S r ra) := pe_mono (SlX.pe_methSl (E := E0) he c hm F hr pass0 ha hst hpl ht) fun σ H P q => by
  obtain ⟨H0, G, δ, Q, j, st, hr, k⟩ := q
  refine ⟨H0, G, δ, _, j, st, hr, fun d v G2 H2 q2 g2 h2 => ?_⟩
  obtain ⟨ho, q2⟩ := q2
  cases h2 with
  | @obj a dx C' vs fs h3 h4 h5 =>
    have ho : C' = C := ho
    subst ho
    refine ⟨a, dx, vs.map some, rfl, obj_slt (K := X.K) (B := B) g2.j.ex h3 h4, H0, G2, δ, _, g2.j, st.gr g2, q2, fun ds ws G3 H3 q3 g3 h6 => ?_⟩
    exact ⟨G3, _, Q, g3.j, .cons ((Dat.obj h3 h4 h5).mono g3.ex) h6, q3, fun d v G4 H4 q4 g4 h7 => k d v G4 H4 q4 ((g2.trans g3).trans g4) h7⟩
  | _ => exact ho.elim
theorem pd_meth0 {pl : Sem Bool} {apos : Pos} (c : SlX.SCls X.K (B.ct C)) (hm : Meth X.K (B.ct C) m g) (F : FnR X.prog X.w X.K X.mg X.base CX0 k g (spD X.K B S)) (hr : Room k X.A) (he : PD X B o r)
    (ht : eval (.Call (.Attribute o m apos) [] [] pos) X.env = (do let ov ← eval o X.env; standAt apos.atName; let (f, first) ← holding [ov] (getMethod ov m pl); callWith pos f first (backTo pos (starEach [] X.env)) (backToKw pos (keywordEach [] X.env))) := by rfl) :
    PD X B (.Call (.Attribute o m apos) [] [] pos) (dMeth C S r dNil) := pe_mono (SlX.pe_methSl0 (E := E0) he c hm F hr pass0 ht) fun σ H P q => by
  obtain ⟨H0, G, δ, Q, j, st, hr, k⟩ := q
  refine ⟨H0, G, δ, _, j, st, hr, fun d v G2 H2 q2 g2 h2 => ?_⟩
  obtain ⟨ho, q2⟩ := q2
  cases h2 with
  | @obj a dx C' vs fs h3 h4 h5 =>
    have ho : C' = C := ho
    subst ho
    exact ⟨a, dx, vs.map some, rfl, obj_slt (K := X.K) (B := B) g2.j.ex h3 h4, G2, _, Q, g2.j, .cons (.obj h3 h4 h5) .nil, q2, fun d v G3 H3 q3 g3 h3 => k d v G3 H3 q3 (g2.trans g3) h3⟩
  | _ => exact ho.elim
/-! operators of one's own -/
def oOwn (C : Nat) (S : FD) : O2 := fun x y Q => isO C x ∧ isO C y ∧ S [x, y] Q
def oOwn1 (C : Nat) (S : FD) : O1 := fun x Q => isO C x ∧ S [x] Q
theorem op_own_d {op : Operator} (sf : PySem.W.selfFirst X.K (B.ct C) = true) (hs : PySem.W.findIn X.K (.ref (B.ct C)) (PySem.dunder op.info.2) = some (some (.ref g))) (hf : PySem.W.isFn X.K (.ref g) = true) (F : FnR X.prog X.w X.K X.mg X.base CX0 k g (spD X.K B S)) (hr : Room k X.A) : OpR X (binaryOp op) (rLift X.K B (oOwn C S)) := by
  intro pins s σ H x y v u P I rx ry q
  obtain ⟨G, dx, dy, Q, j, hx, hy, ⟨o1, o2, hq⟩, kk⟩ := q
  cases hx with
  | @obj a d1 C1 vs fs h3 h4 h5 =>
    cases hy with
    | @obj b d2 C2 ws gs h6 h7 h8 =>
      have o1 : C1 = C := o1
      have o2 : C2 = C := o2
      subst o1 o2
      cases (show v = Value.ref a from rx)
      cases (show u = Value.ref b from ry)
      obtain ⟨sl, od, _, J, _⟩ := SlX.slt_inst I (obj_slt (K := X.K) (B := B) j.ex h3 h4)
      obtain ⟨sl', od', _, J', _⟩ := SlX.slt_inst I (obj_slt (K := X.K) (B := B) j.ex h6 h7)
      obtain ⟨mm, hF⟩ := I.fr
      refine PySem.W.binop_K hF I.ok.mod.kin J J'.type sf hs hf ?_
      refine wpAny_mono (wpAny_call (run_fnR (E := E0) (us := [.ref a, .ref b]) (vs := [.ref a, .ref b]) F hr pass0 I (.cons rfl (.cons rfl .nil)) (Q := P) ⟨G, _, Q, j, .cons (.obj h3 h4 h5) (.cons (.obj h6 h7 h8) .nil), hq, kk⟩)) (fun w s' z => ?_) fun _ _ x => x
      obtain ⟨z', H', I', rz, qz⟩ := z
      exact SlX.cmpback rz ⟨z', H', I', rz, qz⟩
    | _ => exact o2.elim
  | _ => exact o1.elim
theorem un_inv_own (hs : PySem.W.findIn X.K (.ref (B.ct C)) "__invert__" = some (some (.ref g))) (hf : PySem.W.isFn X.K (.ref g) = true) (F : FnR X.prog X.w X.K X.mg X.base CX0 k g (spD X.K B S)) (hr : Room k X.A) : UnR X (unaryOp .Invert) (rLift1 X.K B (oOwn1 C S)) := by
  intro pins s σ H x v P I rx q
  obtain ⟨G, dx, Q, j, hx, ⟨o1, hq⟩, kk⟩ := q
  cases hx with
  | @obj a d1 C1 vs fs h3 h4 h5 =>
    have o1 : C1 = C := o1
    subst o1
    cases (show v = Value.ref a from rx)
    obtain ⟨sl, od, _, J, _⟩ := SlX.slt_inst I (obj_slt (K := X.K) (B := B) j.ex h3 h4)
    obtain ⟨mm, hF⟩ := I.fr
    refine PySem.W.ksp_inv hF I.ok.mod.kin J hs hf ?_
    exact wpAny_call (run_fnR (E := E0) (us := [.ref a]) (vs := [.ref a]) F hr pass0 I (.cons rfl .nil) ⟨G, _, Q, j, .cons (.obj h3 h4 h5) .nil, hq, kk⟩)
  | _ => exact o1.elim
theorem op_cmp_own {op : CmpOp} (hop : ∀ a b, compareOp op a b = richCompare op a b) (nf : PySem.W.notFirst X.K (B.ct C) (.ref (B.ct C)) = true) (hs : PySem.W.findIn X.K (.ref (B.ct C)) (cmpInfo op).2.1 = some (some (.ref g))) (hf : PySem.W.isFn X.K (.ref g) = true) (F : FnR X.prog X.w X.K X.mg X.base CX0 k g (spD X.K B S)) (hr : Room k X.A) : OpR X (compareOp op) (rLift X.K B (oOwn C S)) := by
  intro pins s σ H x y v u P I rx ry q
  obtain ⟨G, dx, dy, Q, j, hx, hy, ⟨o1, o2, hq⟩, kk⟩ := q
  cases hx with
  | @obj a d1 C1 vs fs h3 h4 h5 =>
    cases hy with
    | @obj b d2 C2 ws gs h6 h7 h8 =>
      have o1 : C1 = C := o1
      have o2 : C2 = C := o2
      subst o1 o2
      exact SlX.op_own (E := E0) hop hs hf F hr pass0 pins s σ H _ _ v u P I rx ry ⟨a, d1, _, b, _, d2, _, rfl, rfl, obj_slt (K := X.K) (B := B) j.ex h3 h4, obj_slt (K := X.K) (B := B) j.ex h6 h7, nf, G, _, Q, j, .cons (.obj h3 h4 h5) (.cons (.obj h6 h7 h8) .nil), hq, kk⟩
    | _ => exact o2.elim
  | _ => exact o1.elim
end

/-! the making of an instance -/
def putD (m : Nat) (d : D) (fs : List (Option D)) : List (Option D) := (fs ++ List.replicate (m + 1 - fs.length) none).set m (some d)
theorem fld_put {K : PySem.W.Frag} {B : Bx} {G : Hp} {vs : List (Option V)} {fs : List (Option D)} {m : Nat} {v : V} {d : D} (h : FldOk K B G vs fs) (hv : Dat K B G v d) : FldOk K B G (SlX.putS m v vs) (putD m d fs) := by
  refine ⟨by unfold SlX.putS putD; simp only [List.length_set, List.length_append, List.length_replicate]; rw [h.1], fun i x e => ?_⟩
  by_cases hi : i = m
  · subst hi
    have e2 : (putD i d fs)[i]? = some (some d) := by
      unfold putD
      exact List.getElem?_set_self (by simp only [List.length_append, List.length_replicate]; omega)
    rw [e2] at e
    cases e
    exact ⟨v, SlX.putS_get i v vs, hv⟩
  · have e2 : fs[i]? = some (some x) := by
      unfold putD at e
      rw [List.getElem?_set_ne (Ne.symm hi)] at e
      by_cases hl : i < fs.length
      · rw [List.getElem?_append_left hl] at e; exact e
      · rw [List.getElem?_append_right (by omega), List.getElem?_replicate] at e
        split at e <;> cases e
    obtain ⟨u, a, b⟩ := h.2 i x e2
    exact ⟨u, (SlX.putS_ne hi).mpr a, b⟩
def notNw : Option SD → Bool
  | some (.nw _ _ _) => false
  | _ => true
def oneNw (i : Nat) (δ : DS) : Bool := (List.range δ.length).all fun j => j == i || notNw (δ.getD j none)
theorem oneNw_at {i j : Nat} {δ : DS} {y : Addr} {C : Nat} {fs : List (Option D)} (h : oneNw i δ = true) (e : δ[j]? = some (some (.nw y C fs))) : j = i := by
  unfold oneNw at h
  rw [List.all_eq_true] at h
  have hl := (List.getElem?_eq_some_iff.mp e).1
  have z := h j (List.mem_range.mpr hl)
  rcases Bool.or_eq_true_iff.mp z with z | z
  · exact eq_of_beq z
  · rw [List.getD_eq_getElem?_getD, e] at z
    cases z
section
variable {K : PySem.W.Frag} {B : Bx} {G0 H0 G H : Hp} {σ : L2.St} {δ : DS} {i m C : Nat} {x dx : Addr} {vs : List (Option V)} {fs : List (Option D)} {v : V} {d : D}
theorem nw_gr (g : Gr K B G0 H0 G H) (n : NwAt K B H0 G H x C dx vs fs) (ws : List (Option V)) : Gr K B G0 H0 G (SlX.slH H x (B.ct C) dx ws) := (g.own n.hd n.gd n.bd).own n.hx n.gx n.bx
theorem nw_put (n : NwAt K B H0 G H x C dx vs fs) (hv : Dat K B G v d) : NwAt K B H0 G (SlX.slH H x (B.ct C) dx (SlX.putS m v vs)) x C dx (SlX.putS m v vs) (putD m d fs) :=
  ⟨SlX.slH_slt n.ne, .inr (by unfold SlX.slH; rw [upd_ne n.ne, upd_same]), n.ne, n.gx, n.gd, n.hx, n.hd, n.bx, n.bd, fld_put n.fl hv⟩
theorem StF.nw {F : Nat → List Addr} (y : StF K B H0 G H σ δ F) (h : δ[i]? = some (some (.nw x C fs))) : ∃ dx vs, σ[i]? = some (some (.ref x)) ∧ NwAt K B H0 G H x C dx vs fs ∧ F i = [x, dx] := by
  obtain ⟨ov, h1, s⟩ := y.get h
  generalize F i = f at s ⊢
  cases s with
  | nw n => exact ⟨_, _, h1, n, rfl⟩
theorem st_put {F : Nat → List Addr} (y : StF K B H0 G H σ δ F) (hi : δ[i]? = some (some (.nw x C fs))) (hs : σ[i]? = some (some (.ref x))) (n : NwAt K B H0 G H x C dx vs fs) (hF : F i = [x, dx]) (hv : Dat K B G v d) :
    StF K B H0 G (SlX.slH H x (B.ct C) dx (SlX.putS m v vs)) σ (δ.set i (some (.nw x C (putD m d fs)))) (fun j => if j = i then [x, dx] else F j) := by
  have z := y.put (i := i) (List.getElem?_eq_some_iff.mp hs).1 (Ex.refl G) (H2 := SlX.slH H x (B.ct C) dx (SlX.putS m v vs)) (fun p _ _ hp => ?_) (.nw (nw_put (m := m) n hv)) fun p hp => .inr (by rw [hF]; exact hp)
  · rw [set_same hs] at z
    exact z
  · rw [hF] at hp
    have h1 : p ≠ x := fun e => hp (by rw [e]; simp)
    have h2 : p ≠ dx := fun e => hp (by rw [e]; simp)
    exact ⟨SlX.slH_ne h1 h2, rfl⟩
end
section
variable {X : Cx} {B : Bx} {e : Expr} {r : DE} {pos : Pos} {p : Addr} {f : Str} {i m C : Nat}
/-- self.f as a target -/
def gA (K : PySem.W.Frag) (i m : Nat) (C : Addr) : TG := fun v σ H Q => ∃ x dx vs, σ[i]? = some (some (.ref x)) ∧ SlX.Slt H x C dx vs ∧ Q σ (SlX.slH H x C dx (SlX.putS m v vs))
theorem pg_attr {o : Expr} (c : SlX.SCls X.K (B.ct C)) (t : SlX.Slot1 X.K (B.ct C) f p m) (ho : PE X o (tVar i)) : PG X (.Attribute o f pos) (gA X.K i m (B.ct C)) := ⟨fun pins s σ H v u Q I r hw => by
  obtain ⟨x, dx, vs, hs, hsl, q⟩ := hw
  rw [assign_Attribute]
  refine wpAny_bind (wpAny_holding (thn (ho.run pins s σ H (fun y H1 => y = .ref x ∧ H1 = H) I ⟨_, hs, rfl, rfl⟩) fun ov s1 ⟨y, H1, I1, r1, q1⟩ => ?_))
  obtain ⟨rfl, rfl⟩ := q1
  cases (show ov = Value.ref x from r1)
  refine wpAny_bind (wpAny_standAt (wpAny_bind (wpAny_holding (SlX.setslot_ok I1 hsl c t r fun s2 I2 => wpAny_release ⟨σ, _, I2, q⟩))))⟩
/-- self.f = e -/
def dSelf (i m : Nat) (C : Nat) (r : DE) : DTS := fun W δ => r δ fun d => match δ[i]? with
  | some (some (.nw x C' fs)) => (C' = C ∧ oneNw i δ = true) ∧ W.nx (δ.set i (some (.nw x C (putD m d fs))))
  | _ => False
theorem psd_self {o : Expr} {pos' : Pos} (c : SlX.SCls X.K (B.ct C)) (t : SlX.Slot1 X.K (B.ct C) f p m) (ho : PE X o (tVar i)) (he : PD X B e r) (hs : swapsWith e (some (.Attribute o f pos')) pos.line X.env = pure false := by rfl) : PSD X B (.Assign [.Attribute o f pos'] e pos) (dSelf i m C r) := ps_mono (SlX.ps_sl ho he hs) fun E σ H q => by
  obtain ⟨G0, H0, G, δ, W, g, s, h, k⟩ := q
  refine at_stmt g s h fun d v G2 H2 q2 g2 e2 s2 h2 => ?_
  have q2 : (match δ[i]? with | some (some (.nw x C' fs)) => (C' = C ∧ oneNw i δ = true) ∧ W.nx (δ.set i (some (.nw x C (putD m d fs)))) | _ => False) := q2
  cases h1 : δ[i]? with
  | none => rw [h1] at q2; exact q2.elim
  | some z =>
    cases z with
    | none => rw [h1] at q2; exact q2.elim
    | some y =>
      cases y with
      | sh _ => rw [h1] at q2; exact q2.elim
      | ow _ _ => rw [h1] at q2; exact q2.elim
      | nw x C' fs =>
        rw [h1] at q2
        obtain ⟨⟨rfl, one⟩, q2⟩ := q2
        obtain ⟨F, y⟩ := s2.ex
        obtain ⟨dx, vs, a1, n, hF⟩ := StF.nw y h1
        refine ⟨.ref x, a1, x, _, dx, p, vs, m, rfl, n.sl, c, t, ?_⟩
        exact k.nx _ _ G2 _ q2 (nw_gr g2 n _) e2 ⟨_, st_put y h1 a1 n hF h2⟩
/-- self.f, self.g = e -/
def dSelf2 (i m n : Nat) (C : Nat) (r : DE) : DTS := fun W δ => r δ fun d => match d with
  | .tup [d1, d2] => match δ[i]? with
    | some (some (.nw x C' fs)) => (C' = C ∧ oneNw i δ = true) ∧ W.nx (δ.set i (some (.nw x C (putD n d2 (putD m d1 fs)))))
    | _ => False
  | _ => False
theorem one_set {i : Nat} {δ : DS} {o : Option SD} (h : oneNw i δ = true) : oneNw i (δ.set i o) = true := by
  unfold oneNw at h ⊢
  rw [List.all_eq_true] at h ⊢
  intro j hj
  rw [List.length_set] at hj
  have z := h j hj
  by_cases e : i = j
  · subst e; simp
  · rw [List.getD_eq_getElem?_getD, List.getElem?_set_ne e, ← List.getD_eq_getElem?_getD]
    exact z
theorem psd_self2 {o1 o2 : Expr} {p2 : Addr} {f2 : Str} {n k1 : Nat} {pa pb pt : Pos} (hc : X.calm = true) (c : SlX.SCls X.K (B.ct C)) (t : SlX.Slot1 X.K (B.ct C) f p m) (t2 : SlX.Slot1 X.K (B.ct C) f2 p2 n) (ho1 : PE X o1 (tVar i)) (ho2 : PE X o2 (tVar i)) (he : PD X B e r)
    (hn : (assignEach [.Attribute o1 f pa, .Attribute o2 f2 pb] X.env).length = 2 := by rfl) (hst : (assignEach [.Attribute o1 f pa, .Attribute o2 f2 pb] X.env).findIdx? (·.1) = none := by rfl)
    (ha1 : (assignEach [.Attribute o1 f pa, .Attribute o2 f2 pb] X.env).map (·.2) = assign (.Attribute o1 f pa) X.env :: (assignEach [.Attribute o2 f2 pb] X.env).map (·.2) := by rfl) (ha2 : (assignEach [.Attribute o2 f2 pb] X.env).map (·.2) = assign (.Attribute o2 f2 pb) X.env :: (assignEach [] X.env).map (·.2) := by rfl)
    (hs : swapsWithSole [.Tuple [.Attribute o1 f pa, .Attribute o2 f2 pb] k1 pt] e pos.line X.env = pure false := by rfl) (hw : swappedStores [.Tuple [.Attribute o1 f pa, .Attribute o2 f2 pb] k1 pt] e X.env = pure none := by rfl) (h1 : (assignEach [.Tuple [.Attribute o1 f pa, .Attribute o2 f2 pb] k1 pt] X.env).map (·.2) = [assign (.Tuple [.Attribute o1 f pa, .Attribute o2 f2 pb] k1 pt) X.env] := by rfl) :
    PSD X B (.Assign [.Tuple [.Attribute o1 f pa, .Attribute o2 f2 pb] k1 pt] e pos) (dSelf2 i m n C r) :=
  ps_mono (ps_asg he (pg_tup hc (pgs_cons (pg_attr c t ho1) (pgs_cons (pg_attr c t2 ho2) pgs_nil ha2) ha1) hn hst) hs hw h1) fun E σ H q => by
  obtain ⟨G0, H0, G, δ, W, g, s, h, k⟩ := q
  refine at_stmt g s h fun d v G2 H2 q2 g2 e2 s2 h2 => ?_
  cases h2 with
  | @tup a xs ds h3 h4 =>
    cases h4 with
    | nil => exact q2.elim
    | @cons v1 r1 d1 _ h5 h6 =>
      cases h6 with
      | nil => exact q2.elim
      | @cons v2 r2 d2 _ h7 h8 =>
        cases h8 with
        | cons _ _ => exact q2.elim
        | nil =>
          have q2 : (match δ[i]? with | some (some (.nw x C' fs)) => (C' = C ∧ oneNw i δ = true) ∧ W.nx (δ.set i (some (.nw x C (putD n d2 (putD m d1 fs))))) | _ => False) := q2
          cases h1 : δ[i]? with
          | none => rw [h1] at q2; exact q2.elim
          | some z =>
            cases z with
            | none => rw [h1] at q2; exact q2.elim
            | some y =>
              cases y with
              | sh _ => rw [h1] at q2; exact q2.elim
              | ow _ _ => rw [h1] at q2; exact q2.elim
              | nw x C' fs =>
                rw [h1] at q2
                obtain ⟨⟨rfl, one⟩, q2⟩ := q2
                obtain ⟨F, y⟩ := s2.ex
                obtain ⟨dx, vs, a1, nn, hF⟩ := StF.nw y h1
                refine ⟨a, _, rfl, tx g2.j.ex h3, rfl, v1, [v2], rfl, x, dx, vs, a1, nn.sl, v2, [], rfl, x, dx, _, a1, SlX.slH_slt nn.ne, rfl, ?_⟩
                have n1 := nw_put (m := m) nn h5
                have s3 := st_put (m := m) y h1 a1 nn hF h5
                have g3 := nw_gr g2 nn (SlX.putS m v1 vs)
                have h1' : (δ.set i (some (.nw x C' (putD m d1 fs))))[i]? = some (some (.nw x C' (putD m d1 fs))) := List.getElem?_set_self (List.getElem?_eq_some_iff.mp h1).1
                have s4 := st_put (m := n) s3 h1' a1 n1 (if_pos rfl) h7
                rw [List.set_set] at s4
                exact k.nx _ _ G2 _ q2 (nw_gr g3 n1 _) e2 ⟨_, s4⟩
  | _ => exact q2.elim
end

/-! __init__ -/
abbrev FI := List D → (List D → Prop) → Prop
def hid2 (H : Hp) (x dx : Addr) : Hp := fun b => if b = x ∨ b = dx then none else H b
def spI (K : PySem.W.Frag) (B : Bx) (C : Nat) (S : FI) : Sp := fun vs H P _ => ∃ (x dx : Addr) (ws : List V) (G : Hp) (ds : List D) (Q : List D → Prop), vs = .ref x :: ws ∧ H x = some (.ins (B.ct C) dx []) ∧ H dx = some (.own x) ∧ dx ≠ x ∧ G x = none ∧ G dx = none ∧ Jn K B G H ∧ Dats K B G ws ds ∧ S ds Q ∧
  ∀ fs us dy G2 H2, Q fs → Gr K B G (hid2 H x dx) G2 H2 → H2 x = some (SlX.SlO x (B.ct C) dy (us.map some)) → H2 dy = some (.xd []) → dy ≠ x → G2 x = none → G2 dy = none → hid2 H x dx dy = none → dy ≠ B.b → Dats K B G2 us fs → P .non H2
def startI (n : Nat) (x : Addr) (C : Nat) (ds : List D) : DS := some (.nw x C []) :: (ds.map (fun d => some (.sh d)) ++ List.replicate (n - 1 - ds.length) none)
def endI (x : Addr) (C : Nat) (Q : List D → Prop) : DEnds where
  nx := fun (δ : DS) => match (δ[0]? : Option (Option SD)) with
    | some (some (.nw x' C' fs)) => (x' = x ∧ C' = C) ∧ ∃ ds, fs = ds.map some ∧ ds ≠ [] ∧ Q ds
    | _ => False
  rt := fun _ => False
theorem flds_all {K : PySem.W.Frag} {B : Bx} {G : Hp} : ∀ {vs : List (Option V)} {ds : List D}, FldOk K B G vs (ds.map some) → ∃ us, vs = us.map some ∧ Dats K B G us ds
  | [], [], _ => ⟨[], rfl, .nil⟩
  | [], _ :: _, h => nomatch h.1
  | _ :: _, [], h => nomatch h.1
  | v :: vs, d :: ds, h => by
    obtain ⟨u, e1, e2⟩ := h.2 0 d rfl
    cases e1
    obtain ⟨us, e3, e4⟩ := flds_all (vs := vs) (ds := ds) ⟨Nat.succ.inj h.1, fun i x e => h.2 (i + 1) x e⟩
    exact ⟨u :: us, by rw [e3]; rfl, .cons e2 e4⟩
section
variable {P : Program} {w : World} {K : PySem.W.Frag} {mg : Str → Option Value} {base : Heap}
theorem fn_init {x qual : Str} {st : Stmt} {f : Addr} {fd : FuncData} {N ps : List Str} {k : Nat} {B : Bx} {C : Nat} {S : FI} {t : DTS} (F : Fun K x qual st f fd) (Sc : FnScope N ps (defScope st)) (len : ∀ ds Q, S ds Q → ds.length + 1 = ps.length) (hN : 1 ≤ N.length)
    (hbody : ∀ (cdv : Value) (A : Around) (outer : List Env) (s : Shared) (H : Hp) (E : XK), Room k (A.deeper (envOfC qual (defScope st) s.heap.objs.size f cdv)) → PSsD (cxOf CX0 P w K mg base N qual (defScope st) f cdv A outer s H E).nox B (defBody st) t)
    (vc : ∀ x ds Q, S ds Q → t (endI x C Q) (startI N.length x C ds)) : FnOk P w K mg base CX0 (k + 1) f fd ps (spI K B C S) := by
  refine F.ok Sc (fun vs H Q E h => ?_) (fun cdv A outer s H vs Q E hr h => ⟨_, hbody cdv A outer s H E hr, ?_⟩)
  · obtain ⟨x, dx, ws, G, ds, R, rfl, _, _, _, _, _, _, hd, hs, _⟩ := h
    rw [List.length_cons, hd.len]
    exact len ds R hs
  · obtain ⟨x, dx, ws, G, ds, R, rfl, hx, hdx, ne, gx, gd, j, hd, hs, kk⟩ := h
    have nbx : x ≠ B.b := fun z => by
      obtain ⟨a, b, c, ns, e, _⟩ := j.bag
      rw [← z, hx] at e; cases e
    have nbd : dx ≠ B.b := fun z => by
      obtain ⟨a, b, c, ns, e, _⟩ := j.bag
      rw [← z, hdx] at e; cases e
    have g0 : Gr K B G (hid2 H x dx) G H := by
      refine ⟨Ex.refl G, fun a o _ h => ?_, j, fun _ _ => rfl⟩
      unfold hid2 at h
      split at h
      · cases h
      · exact h
    have s0 : StOk K B (hid2 H x dx) G H (L2.start N (.ref x :: ws)) (startI N.length x C ds) := by
      have base_ := start_ok (K := K) (B := B) (H0 := hid2 H x dx) (H := H) (N := N) (vs := .ref x :: ws) (ds := .bag :: ds) (G := G)
      have len0 : (L2.start N (.ref x :: ws)).length = (startI N.length x C ds).length := by
        unfold L2.start startI
        simp only [List.length_append, List.length_map, List.length_cons, List.length_replicate]
        rw [hd.len]
        omega
      have at0 : (L2.start N (.ref x :: ws))[0]? = some (some (.ref x)) := rfl
      have rest : ∀ (i : Nat) (y : SD), (startI N.length x C ds)[i + 1]? = some (some y) → ∃ d v, y = .sh d ∧ (L2.start N (.ref x :: ws))[i + 1]? = some (some v) ∧ Dat K B G v d := fun i y e => by
        have e : (ds.map (fun d => some (SD.sh d)) ++ List.replicate (N.length - 1 - ds.length) none)[i]? = some (some y) := e
        by_cases hi : i < ds.length
        · rw [List.getElem?_append_left (by rw [List.length_map]; exact hi), List.getElem?_map] at e
          cases hdd : ds[i]? with
          | none => rw [hdd] at e; cases e
          | some d' =>
            rw [hdd] at e
            cases e
            obtain ⟨v, h1, h2⟩ := hd.get hdd
            refine ⟨d', v, rfl, ?_, h2⟩
            show (ws.map some ++ List.replicate (N.length - (ws.length + 1)) none)[i]? = _
            rw [List.getElem?_append_left (by rw [List.length_map, hd.len]; exact hi), List.getElem?_map, h1]
            rfl
        · rw [List.getElem?_append_right (by rw [List.length_map]; omega), List.getElem?_replicate] at e
          split at e <;> cases e
      have none0 : ∀ (i : Nat) (od : Option SD), (startI N.length x C ds)[i + 1]? = some od → od = none ∨ ∃ y, od = some y := fun i od _ => by cases od with | none => exact .inl rfl | some y => exact .inr ⟨y, rfl⟩
      refine ⟨fun i => if i = 0 then [x, dx] else [], len0, fun i ov od e1 e2 => ?_, fun i j' _ _ hij p hp hq => ?_⟩
      · cases i with
        | zero =>
          rw [at0] at e1
          cases e1
          cases e2
          rw [if_pos rfl]
          exact .nw ⟨.inl ⟨hx, rfl⟩, .inl hdx, ne, gx, gd, by unfold hid2; rw [if_pos (.inl rfl)], by unfold hid2; rw [if_pos (.inr rfl)], nbx, nbd, rfl, fun i d e => nomatch e⟩
        | succ i =>
          rw [if_neg (Nat.succ_ne_zero i)]
          rcases none0 i od e2 with rfl | ⟨y, rfl⟩
          · exact .no
          · obtain ⟨d', v, rfl, h2, h3⟩ := rest i y e2
            rw [h2] at e1
            cases e1
            exact .sh h3
      · by_cases h1 : i = 0
        · have h2 : j' ≠ 0 := fun z => hij (h1.trans z.symm)
          rw [if_neg h2] at hq
          exact nomatch hq
        · rw [if_neg h1] at hp
          exact nomatch hp
    refine ⟨G, hid2 H x dx, G, startI N.length x C ds, endI x C R, g0, s0, vc x ds R hs, ⟨?_, ?_, ?_, ?_, ?_⟩⟩
    · intro σ δ G2 H2 q g _ s2
      have q : (match (δ[0]? : Option (Option SD)) with | some (some (.nw x' C' fs)) => (x' = x ∧ C' = C) ∧ ∃ ds, fs = ds.map some ∧ ds ≠ [] ∧ R ds | _ => False) := q
      cases h1 : δ[0]? with
      | none => rw [h1] at q; exact q.elim
      | some z =>
        cases z with
        | none => rw [h1] at q; exact q.elim
        | some y =>
          cases y with
          | sh _ => rw [h1] at q; exact q.elim
          | ow _ _ => rw [h1] at q; exact q.elim
          | nw x' C' fs =>
            rw [h1] at q
            obtain ⟨⟨rfl, rfl⟩, es, rfl, hne, q⟩ := q
            obtain ⟨d2, us, a1, n⟩ := s2.nw 0 x' C' _ h1
            obtain ⟨zs, rfl, hz⟩ := flds_all n.fl
            rcases n.sl with ⟨z1, z2⟩ | ⟨z1, z2⟩
            · have : zs = [] := by simpa using z2
              subst this
              cases hz
              exact absurd rfl hne
            · exact kk es zs d2 G2 H2 q g z1 z2 n.ne n.gx n.gd n.hd n.bd hz
    · exact fun σ δ G2 H2 q g _ s2 => q.elim
    · exact fun σ δ G2 H2 q g _ s2 => q.elim
    · exact fun d v G2 H2 q g _ hd => q.elim
    · exact fun o v f G2 H2 q g _ hd => q.elim
end
section
variable {X : Cx} {B : Bx} {e : Expr} {es : List Expr} {pos : Pos} {g : Addr} {k C : Nat} {x : Str} {ra : DA} {S : FI}
def dMake (C : Nat) (S : FI) (ra : DA) : DE := fun δ Q => ra δ fun ds => S ds fun fs => Q (.obj C fs)
theorem pd_make {fp : Pos} (M : Mk X.K (B.ct C) g) (F : FnR X.prog X.w X.K X.mg X.base CX0 k g (spI X.K B C S)) (hr : Room (k + 1) X.A) (hg : Gl X x) (hm : X.mg x = some (.ref (B.ct C))) (ha : PAD X B (e :: es) ra) (hdb : (x == ("__debug__" : Str)) = false := by decide)
    (he : starEach (e :: es) X.env = (false, eval e X.env) :: starEach es X.env := by rfl) (hpl : (backTo pos (starEach es X.env)).any (·.1) = false := by rfl) : PD X B (.Call (.Name x fp) (e :: es) [] pos) (dMake C S ra) := pe_mono (StX.pe_makeR (E := E0) M F hr hg hm pass0 ha hdb he hpl) fun σ H P q => by
  obtain ⟨H0, G, δ, Q, j, st, hr, k⟩ := q
  refine ⟨H0, G, δ, _, j, st, hr, fun ds vs G2 H2 q2 g2 h2 y dx hy hdx ne => ?_⟩
  have gy : G2 y = none := fresh_back g2.j.ex hy
  have gd : G2 dx = none := fresh_back g2.j.ex hdx
  have j1 : Jn X.K B G2 (upd (upd H2 dx (.own y)) y (.ins (B.ct C) dx [])) := by
    have a := Gr.new0 (o := .own y) g2.j hdx
    exact (Gr.new0 (o := .ins (B.ct C) dx []) a.j (by rw [upd_ne (Ne.symm ne)]; exact hy)).j
  have eh : hid2 (upd (upd H2 dx (.own y)) y (.ins (B.ct C) dx [])) y dx = H2 := by
    funext b
    unfold hid2
    by_cases h1 : b = y
    · subst h1; rw [if_pos (.inl rfl), hy]
    · by_cases h3 : b = dx
      · subst h3; rw [if_pos (.inr rfl), hdx]
      · rw [if_neg (fun z => z.elim h1 h3), upd_ne h1, upd_ne h3]
  refine ⟨y, dx, vs, G2, ds, _, rfl, upd_same, by rw [upd_ne ne, upd_same], ne, gy, gd, j1, h2, q2, fun fs us dy G3 H3 q3 g3 z1 z2 z3 z4 z5 z6 z7 z8 => ⟨rfl, ?_⟩⟩
  rw [eh] at g3 z6
  have g4 := g3.frz (p := dy) z6 z5 z7 z2
  have g5 := g4.frz (p := y) hy (by rw [upd_ne (Ne.symm z3)]; exact z4) (Gr.neB g2.j hy) z1
  have e5 : Ex G3 (upd (upd G3 dy (.xd [])) y (SlX.SlO y (B.ct C) dy (us.map some))) := (Ex.new z5).trans (Ex.new (by rw [upd_ne (Ne.symm z3)]; exact z4))
  exact k _ _ _ _ q3 (g2.trans g5) (.obj upd_same (by rw [upd_ne z3, upd_same]) (z8.mono e5))
/-! an instance called -/
def dCallO (C : Nat) (Sf : FD) (r : DE) (ra : DA) : DE := fun δ Q => r δ fun d => isO C d ∧ ra δ fun ds => Sf (d :: ds) Q
theorem pd_callO {fe : Expr} {r : DE} {Sf : FD} (c : StX.CallO X.K (B.ct C) g) (F : FnR X.prog X.w X.K X.mg X.base CX0 k g (spD X.K B Sf)) (hr : Room k X.A) (hf : PD X B fe r) (ha : PAD X B (e :: es) ra)
    (ht : eval (.Call fe (e :: es) [] pos) X.env = (do callWith pos (← eval fe X.env) [] (backTo pos (starEach (e :: es) X.env)) (backToKw pos (keywordEach [] X.env))) := by rfl)
    (he : starEach (e :: es) X.env = (false, eval e X.env) :: starEach es X.env := by rfl) (hpl : (backTo pos (starEach es X.env)).any (·.1) = false := by rfl) : PD X B (.Call fe (e :: es) [] pos) (dCallO C Sf r ra) := pe_mono (StX.pe_callO (E := E0) hf c F hr pass0 ha ht he hpl) fun σ H P q => by
  obtain ⟨H0, G, δ, Q, j, st, hr, k⟩ := q
  refine ⟨H0, G, δ, _, j, st, hr, fun d v G2 H2 q2 g2 h2 => ?_⟩
  obtain ⟨ho, q2⟩ := q2
  cases h2 with
  | @obj a dx C' vs fs h3 h4 h5 =>
    have ho : C' = C := ho
    subst ho
    refine ⟨a, rfl, H0, G2, δ, _, g2.j, st.gr g2, q2, fun ds ws G3 H3 q3 g3 h6 => ⟨.inl ⟨dx, _, obj_slt (K := X.K) (B := B) (g3.ex.trans g3.j.ex) h3 h4⟩, ?_⟩⟩
    exact ⟨G3, _, Q, g3.j, .cons ((Dat.obj h3 h4 h5).mono g3.ex) h6, q3, fun d v G4 H4 q4 g4 h7 => k d v G4 H4 q4 ((g2.trans g3).trans g4) h7⟩
  | _ => exact ho.elim
end
end DL
namespace DL
open PySem PySem.Spec PyProof.Rows L2 Evl

/-! what the top has left, by names -/
structure DefAt (K : PySem.W.Frag) (mg : Str → Option Value) (x : Str) (st : Stmt) (ps : List Str) where
  f : Addr
  fd : FuncData
  fn : Fun K x x st f fd
  bd : Binds K fd ps []
  at_ : mg x = some (.ref f)
/-- a def within a class: its address and how it is bound -/
structure InAt (K : PySem.W.Frag) (x qual : Str) (st : Stmt) (ps : List Str) where
  f : Addr
  fd : FuncData
  fn : Fun K x qual st f fd
  bd : Binds K fd ps []
structure PrpAt (K : PySem.W.Frag) (C : Addr) (x : Str) (g : Addr) : Prop where
  ex : ∃ p, PySem.W.findIn K (.ref C) x = some (some (.ref p)) ∧ PySem.W.specialIn K (.ref p) "__get__" = some (some (.builtin "property.__get__")) ∧ PySem.W.takesIn K (.ref p) = some true ∧ ∃ rest, PySem.W.recIn K p "property" = some (.ref g :: rest)
structure SlotAt (K : PySem.W.Frag) (C : Addr) (x : Str) (i : Nat) : Prop where
  ex : ∃ p, SlX.Slot1 K C x p i
/-- by positions -/
theorem fn_r {P : Program} {w : World} {K : PySem.W.Frag} {mg : Str → Option Value} {base : Heap} {CX : CXT} {k : Nat} {f : Addr} {fd : FuncData} {ps : List Str} {sp : Sp} (F : FnOk P w K mg base CX k f fd ps sp) (b : Binds K fd ps []) : FnR P w K mg base CX k f sp :=
  (F.raw b .nil).imp fun vs H Q E h => by rw [List.append_nil]; exact h
section
variable {X : Cx} {B : Bx} {e o : Expr} {es : List Expr} {r : DE} {pos : Pos} {C k k' i : Nat} {S : FD} {ra : DA} {f m : Str} {g : Addr}
/-- f(..), a def of the module -/
theorem pd_callD {x : Str} {st : Stmt} {ps : List Str} {fp : Pos} (T : DefAt X.K X.mg x st ps) (F : FnOk X.prog X.w X.K X.mg X.base CX0 k T.f T.fd ps (spD X.K B S)) (hr : Room k' X.A) (hk : k ≤ k') (hg : Gl X x) (ha : PAD X B (e :: es) ra) (hd : (x == ("__debug__" : Str)) = false := by decide) (he : starEach (e :: es) X.env = (false, eval e X.env) :: starEach es X.env := by rfl) (hpl : (backTo pos (starEach es X.env)).any (·.1) = false := by rfl) :
    PD X B (.Call (.Name x fp) (e :: es) [] pos) (dCall S ra) := pd_call F (hr.mono hk) hg T.at_ T.fn.kp T.bd (E := E0) pass0 ha hd he hpl
theorem pd_callDG {x : Str} {st : Stmt} {ps : List Str} {fp : Pos} (T : DefAt X.K X.mg x st ps) (F : FnG X.prog X.w X.K X.mg X.base CX0 k T.f T.fd ps (spD X.K B S)) (hgd : X.A.guards = some []) (hr : Room k' X.A) (hk : k ≤ k') (hg : Gl X x) (ha : PAD X B (e :: es) ra) (hd : (x == ("__debug__" : Str)) = false := by decide) (he : starEach (e :: es) X.env = (false, eval e X.env) :: starEach es X.env := by rfl) (hpl : (backTo pos (starEach es X.env)).any (·.1) = false := by rfl) :
    PD X B (.Call (.Name x fp) (e :: es) [] pos) (dCall S ra) := pd_callG F hgd (hr.mono hk) hg T.at_ T.fn.kp T.bd (E := E0) pass0 ha hd he hpl
theorem pd_callDS {x : Str} {st : Stmt} {ps : List Str} {fp p : Pos} {e2 : Expr} (T : DefAt X.K X.mg x st ps) (F : FnOk X.prog X.w X.K X.mg X.base CX0 k T.f T.fd ps (spD X.K B S)) (hr : Room k' X.A) (hk : k ≤ k') (hg : Gl X x) (ha : PAD X B (.Starred e p :: e2 :: es) ra) (hd : (x == ("__debug__" : Str)) = false := by decide)
    (he : starEach (.Starred e p :: e2 :: es) X.env = (true, eval e X.env) :: (false, eval e2 X.env) :: starEach es X.env := by rfl) :
    PD X B (.Call (.Name x fp) (.Starred e p :: e2 :: es) [] pos) (dCall S ra) := pd_callStar F (hr.mono hk) hg T.at_ T.fn.kp T.bd (E := E0) pass0 ha hd he
theorem pd_propD (c : SlX.SCls X.K (B.ct C)) (T : PrpAt X.K (B.ct C) f g) (F : FnR X.prog X.w X.K X.mg X.base CX0 k g (spD X.K B S)) (hr : Room k' X.A) (hk : k + 1 ≤ k') (he : PD X B e r) (hb : attributeBase e f X.env (eval e X.env) = eval e X.env := by rfl) :
    PD X B (.Attribute e f pos) (dProp C S r) := by
  obtain ⟨p, h1, h2, h3, h4⟩ := T.ex
  exact pd_prop c h1 h2 h3 h4 F (hr.mono hk) he hb
theorem pd_fldD (c : SlX.SCls X.K (B.ct C)) (T : SlotAt X.K (B.ct C) f i) (he : PD X B e r) (hb : attributeBase e f X.env (eval e X.env) = eval e X.env := by rfl) : PD X B (.Attribute e f pos) (dFld C i r) := by
  obtain ⟨p, h⟩ := T.ex
  exact pd_fld c h he hb
/-- x += e -/
def dAug (o : O2) (i : Nat) (r : DE) : DTS := fun W δ => match δ[i]? with
  | some (some (.sh d)) => r δ fun y => o d y fun z => W.nx (δ.set i (some (.sh z)))
  | _ => False
end
section
variable {X : Cx} {B : Bx} {e : Expr} {r : DE} {pos : Pos} {C i m n : Nat} {f f2 : Str}
theorem psd_selfD {o : Expr} {pos' : Pos} (c : SlX.SCls X.K (B.ct C)) (t : SlotAt X.K (B.ct C) f m) (ho : PE X o (tVar i)) (he : PD X B e r) (hs : swapsWith e (some (.Attribute o f pos')) pos.line X.env = pure false := by rfl) : PSD X B (.Assign [.Attribute o f pos'] e pos) (dSelf i m C r) := by
  obtain ⟨p, h⟩ := t.ex
  exact psd_self c h ho he hs
theorem psd_self2D {o1 o2 : Expr} {k1 : Nat} {pa pb pt : Pos} (hc : X.calm = true) (c : SlX.SCls X.K (B.ct C)) (t : SlotAt X.K (B.ct C) f m) (t2 : SlotAt X.K (B.ct C) f2 n) (ho1 : PE X o1 (tVar i)) (ho2 : PE X o2 (tVar i)) (he : PD X B e r)
    (hn : (assignEach [.Attribute o1 f pa, .Attribute o2 f2 pb] X.env).length = 2 := by rfl) (hst : (assignEach [.Attribute o1 f pa, .Attribute o2 f2 pb] X.env).findIdx? (·.1) = none := by rfl)
    (ha1 : (assignEach [.Attribute o1 f pa, .Attribute o2 f2 pb] X.env).map (·.2) = assign (.Attribute o1 f pa) X.env :: (assignEach [.Attribute o2 f2 pb] X.env).map (·.2) := by rfl) (ha2 : (assignEach [.Attribute o2 f2 pb] X.env).map (·.2) = assign (.Attribute o2 f2 pb) X.env :: (assignEach [] X.env).map (·.2) := by rfl)
    (hs : swapsWithSole [.Tuple [.Attribute o1 f pa, .Attribute o2 f2 pb] k1 pt] e pos.line X.env = pure false := by rfl) (hw : swappedStores [.Tuple [.Attribute o1 f pa, .Attribute o2 f2 pb] k1 pt] e X.env = pure none := by rfl) (h1 : (assignEach [.Tuple [.Attribute o1 f pa, .Attribute o2 f2 pb] k1 pt] X.env).map (·.2) = [assign (.Tuple [.Attribute o1 f pa, .Attribute o2 f2 pb] k1 pt) X.env] := by rfl) :
    PSD X B (.Assign [.Tuple [.Attribute o1 f pa, .Attribute o2 f2 pb] k1 pt] e pos) (dSelf2 i m n C r) := by
  obtain ⟨p, h⟩ := t.ex
  obtain ⟨p2, h2⟩ := t2.ex
  exact psd_self2 hc c h h2 ho1 ho2 he hn hst ha1 ha2 hs hw h1
end
/-! reading back what stands at an index, for xs[i] += 1 -/
theorem get_list {X : Cx} : PGet X (fun o i H Q => ∃ p xs j v, o = .ref p ∧ i = .int ((j : Nat) : Int) ∧ SqL X.K H p xs ∧ xs[j]? = some v ∧ Q v H) := by
  intro pins s σ H o i ov iv Q I ro ri h
  obtain ⟨p, xs, j, v, rfl, rfl, hq, e, q⟩ := h
  cases ro
  obtain ⟨t, rfl⟩ := ri
  obtain ⟨its, r, pl, hz⟩ := I.list hq
  obtain ⟨w, ew, rw'⟩ := r.get e
  have hj := (List.getElem?_eq_some_iff.mp e).1
  exact getItem_listL pl.isList (by omega) (by have := line63; omega) ew ⟨v, H, I, rw', q⟩
end DL
namespace DL
open PySem PySem.Spec PyProof.Rows L2 Evl

/-! comprehensions read at once -/
theorem lc_map {i : Nat} {te : DE} {δ : DS} {Q : List D → Prop} (f : D → D) : ∀ (ds acc : List D), (∀ d ∈ ds, ∀ R : D → Prop, R (f d) → te (δ.set i (some (.sh d))) R) → Q (acc ++ ds.map f) → lcD (gN i) dYes te δ Q ds acc
  | [], acc, _, q => by
    rw [List.map_nil, List.append_nil] at q
    exact q
  | d :: ds, acc, h, q => by
    show te (δ.set i (some (.sh d))) fun y => lcD (gN i) dYes te δ Q ds (acc ++ [y])
    refine h d List.mem_cons_self _ (lc_map f ds _ (fun z hz => h z (List.mem_cons_of_mem _ hz)) ?_)
    rw [List.append_assoc]
    exact q
theorem lc_filter {i : Nat} {tt : DT} {te : DE} {δ : DS} {Q : List D → Prop} (p : D → Bool) (f : D → D) : ∀ (ds acc : List D), (∀ d ∈ ds, ∀ R : Bool → Prop, R (p d) → tt (δ.set i (some (.sh d))) R) → (∀ d ∈ ds, p d = true → ∀ R : D → Prop, R (f d) → te (δ.set i (some (.sh d))) R) →
    Q (acc ++ (ds.filter p).map f) → lcD (gN i) tt te δ Q ds acc
  | [], acc, _, _, q => by
    rw [List.filter_nil, List.map_nil, List.append_nil] at q
    exact q
  | d :: ds, acc, h, h2, q => by
    show tt (δ.set i (some (.sh d))) fun b => if b = true then te (δ.set i (some (.sh d))) fun y => lcD (gN i) tt te δ Q ds (acc ++ [y]) else lcD (gN i) tt te δ Q ds acc
    refine h d List.mem_cons_self _ ?_
    cases hp : p d with
    | true =>
      rw [if_pos rfl]
      refine h2 d List.mem_cons_self hp _ (lc_filter p f ds _ (fun z hz => h z (List.mem_cons_of_mem _ hz)) (fun z hz => h2 z (List.mem_cons_of_mem _ hz)) ?_)
      rw [List.filter_cons, if_pos hp] at q
      rw [List.append_assoc]
      exact q
    | false =>
      rw [if_neg Bool.false_ne_true]
      refine lc_filter p f ds _ (fun z hz => h z (List.mem_cons_of_mem _ hz)) (fun z hz => h2 z (List.mem_cons_of_mem _ hz)) ?_
      rw [List.filter_cons, if_neg (by rw [hp]; exact Bool.false_ne_true)] at q
      exact q
/-- what is drawn: each is as P tells -/
theorem lc_any {i : Nat} {te : DE} {δ : DS} {Q : List D → Prop} (P : D → Prop) : ∀ (ds acc : List D), (∀ d ∈ ds, ∀ R : D → Prop, (∀ y, P y → R y) → te (δ.set i (some (.sh d))) R) → (∀ ys : List D, ys.length = ds.length → (∀ y ∈ ys, P y) → Q (acc ++ ys)) → lcD (gN i) dYes te δ Q ds acc
  | [], acc, _, q => by
    have := q [] rfl (fun _ h => nomatch h)
    rw [List.append_nil] at this
    exact this
  | d :: ds, acc, h, q => by
    show te (δ.set i (some (.sh d))) fun y => lcD (gN i) dYes te δ Q ds (acc ++ [y])
    refine h d List.mem_cons_self _ fun y hy => lc_any P ds _ (fun z hz => h z (List.mem_cons_of_mem _ hz)) fun ys hl hys => ?_
    rw [List.append_assoc]
    exact q (y :: ys) (by rw [List.length_cons, List.length_cons, hl]) fun z hz => by
      rcases List.mem_cons.mp hz with rfl | hz
      · exact hy
      · exact hys z hz
/-! lists of numbers, signs, truths -/
theorem ups_len (lo : Int) (n : Nat) : (ups lo n).length = n := by simp [ups]
theorem ups_succ (lo : Int) (n : Nat) : ups lo (n + 1) = .int lo :: ups (lo + 1) n := by
  unfold ups
  rw [List.range_succ_eq_map, List.map_cons, List.map_map]
  congr 1
  · simp
  · apply List.map_congr_left
    intro k _
    show D.int _ = D.int _
    congr 1
    simp only [Nat.succ_eq_add_one]
    omega
theorem ups_zero (lo : Int) : ups lo 0 = [] := rfl
theorem mem_ups {lo : Int} {n : Nat} {d : D} (h : d ∈ ups lo n) : ∃ k : Nat, k < n ∧ d = .int (lo + (k : Int)) := by
  unfold ups at h
  obtain ⟨k, hk, rfl⟩ := List.mem_map.mp h
  exact ⟨k, List.mem_range.mp hk, rfl⟩
theorem chars_len (x : Str) : (chars x).length = x.length := by simp [chars, Str.length]
theorem mem_chars {x : Str} {d : D} (h : d ∈ chars x) : ∃ c, c ∈ x.cps.toList ∧ d = .str ⟨#[c]⟩ := by
  unfold chars at h
  obtain ⟨c, hc, rfl⟩ := List.mem_map.mp h
  exact ⟨c, hc, rfl⟩
def sg (c : Nat) : D := .str ⟨#[c]⟩
theorem chars_eq (x : Str) : chars x = x.cps.toList.map sg := rfl
theorem bls_map (f : D → Bool) : ∀ ds : List D, blsOf (ds.map fun d => .bl (f d)) = some (ds.map f)
  | [] => rfl
  | d :: ds => by
    show (blsOf (ds.map fun d => .bl (f d))).map (f d :: ·) = _
    rw [bls_map f ds]
    rfl
theorem bls_map' {α : Type} (f : α → Bool) : ∀ ds : List α, blsOf (ds.map fun d => .bl (f d)) = some (ds.map f)
  | [] => rfl
  | d :: ds => by
    show (blsOf (ds.map fun d => .bl (f d))).map (f d :: ·) = _
    rw [bls_map' f ds]
    rfl
theorem strs_map {α : Type} (f : α → Str) : ∀ ds : List α, strsOf (ds.map fun d => .str (f d)) = some (ds.map f)
  | [] => rfl
  | d :: ds => by
    show (strsOf (ds.map fun d => .str (f d))).map (f d :: ·) = _
    rw [strs_map f ds]
    rfl
theorem strs_signs (cs : List Nat) : strsOf (cs.map sg) = some (cs.map fun c => ⟨#[c]⟩) := strs_map (fun c => (⟨#[c]⟩ : Str)) cs
def ofCodes (cs : List Nat) : Str := ⟨cs.toArray⟩
theorem tl_codes (cs : List Nat) : (ofCodes cs).cps.toList = cs := by simp [ofCodes]
theorem codes_len (cs : List Nat) : (ofCodes cs).length = cs.length := by simp [ofCodes, Str.length]
theorem str_ext {x y : Str} (h : x.cps.toList = y.cps.toList) : x = y := by
  cases x; cases y
  have h' := Array.toList_inj.mp h
  simp only at h'
  rw [h']
theorem len_toList (x : Str) : x.cps.toList.length = x.length := by simp [Str.length]
theorem glue_fold : ∀ (ps : List Str) (acc : Array Nat), (ps.foldl (fun acc p => acc ++ (Str.ofString "").cps ++ p.cps) acc).toList = acc.toList ++ (ps.map fun p => p.cps.toList).flatten
  | [], acc => by simp
  | p :: ps, acc => by
    rw [List.foldl_cons, glue_fold ps]
    have e : (Str.ofString "").cps = #[] := by decide +kernel
    rw [e]
    simp
theorem join_empty (ps : List Str) : Txt.join (Str.ofString "") ps = ofCodes (ps.map fun p => p.cps.toList).flatten := by
  apply str_ext
  rw [tl_codes]
  show ((ps.drop 1).foldl (fun acc p => acc ++ (Str.ofString "").cps ++ p.cps) (ps.headD Str.empty).cps).toList = _
  rw [glue_fold]
  cases ps with
  | nil => rfl
  | cons p ps => simp
theorem join_signs (cs : List Nat) : Txt.join (Str.ofString "") (cs.map fun c => ⟨#[c]⟩) = ofCodes cs := by
  rw [join_empty]
  congr 1
  induction cs with
  | nil => rfl
  | cons c cs ih => simpa using ih
theorem sum_ones (cs : List Nat) : ((cs.map fun c => (⟨#[c]⟩ : Str)).map (·.length)).sum = cs.length := by
  induction cs with
  | nil => rfl
  | cons c cs ih =>
    rw [List.map_cons, List.map_cons, List.sum_cons, ih, List.length_cons]
    show 1 + cs.length = cs.length + 1
    omega
/-- ''.join of signs, as the reading has it -/
theorem join_ok {cs : List Nat} {Q : D → Prop} (hz : cs.length ≤ 16777216) (q : Q (.str (ofCodes cs))) : mJoin (.str (Str.ofString "")) [.lst (cs.map sg)] Q := by
  show (match strsOf (cs.map sg) with | some ys => (ys.map (·.length)).sum + ys.length * (Str.ofString "").length ≤ 16777216 ∧ Q (.str (Txt.join (Str.ofString "") ys)) | none => False)
  rw [strs_signs]
  have e : (Str.ofString "").length = 0 := by decide +kernel
  refine ⟨?_, by rw [join_signs]; exact q⟩
  rw [sum_ones, e]
  omega
theorem join_sz {cs : List Nat} (hz : cs.length ≤ 16777216) : ((cs.map fun c => (⟨#[c]⟩ : Str)).map fun x => x.length).sum + (cs.map fun c => (⟨#[c]⟩ : Str)).length * (Str.ofString "").length ≤ 16777216 := by
  have e : (Str.ofString "").length = 0 := by decide +kernel
  have := sum_ones cs
  rw [e, this]
  omega
theorem str_one (c k : Nat) : ((⟨#[c]⟩ : Str) = ⟨#[k]⟩) ↔ c = k := by
  constructor
  · intro h
    have := congrArg (fun s : Str => s.cps.toList) h
    simpa using this
  · intro h; rw [h]
theorem atI_pos {α : Type} {xs : List α} {i : Int} (h0 : 0 ≤ i) (h1 : i < xs.length) : atI xs i = some (xs[i.toNat]'(by omega)) := by
  have e : i = ((i.toNat : Nat) : Int) := by omega
  have h : xs[i.toNat]? = some (xs[i.toNat]'(by omega)) := List.getElem?_eq_getElem _
  have := atI_nat h
  rw [← e] at this
  exact this
theorem atI_q {α : Type} {xs : List α} {i : Int} {v : α} (h0 : 0 ≤ i) (h : xs[i.toNat]? = some v) : atI xs i = some v := by
  have e : i = ((i.toNat : Nat) : Int) := by omega
  rw [e]
  exact atI_nat h
theorem cut_to {α : Type} (xs : List α) (n : Nat) : cut xs none (some (n : Int)) = xs.take n := by
  unfold cut
  rw [HT.sIx_none, HT.sIx_nat, List.drop_zero, Nat.sub_zero]
  by_cases h : n ≤ xs.length
  · rw [Nat.min_eq_left h]
  · rw [Nat.min_eq_right (by omega), List.take_length, List.take_of_length_le (by omega)]
theorem cut_from {α : Type} (xs : List α) (n : Nat) : cut xs (some (n : Int)) none = xs.drop n := by
  unfold cut
  rw [HT.sIx_none, HT.sIx_nat]
  by_cases h : n ≤ xs.length
  · rw [Nat.min_eq_left h, List.take_of_length_le (by simp)]
  · rw [Nat.min_eq_right (by omega), Nat.sub_self, List.take_zero, List.drop_of_length_le (by omega)]
section
variable {α : Type} {a b c d e f g h : α} {xs : List α}
theorem atI0 : atI (a :: xs) 0 = some a := atI_nat (j := 0) rfl
theorem atI1 : atI (a :: b :: xs) 1 = some b := atI_nat (j := 1) rfl
theorem atI2 : atI (a :: b :: c :: xs) 2 = some c := atI_nat (j := 2) rfl
theorem atI3 : atI (a :: b :: c :: d :: xs) 3 = some d := atI_nat (j := 3) rfl
theorem atI4 : atI (a :: b :: c :: d :: e :: xs) 4 = some e := atI_nat (j := 4) rfl
theorem atI5 : atI (a :: b :: c :: d :: e :: f :: xs) 5 = some f := atI_nat (j := 5) rfl
theorem atI6 : atI (a :: b :: c :: d :: e :: f :: g :: xs) 6 = some g := atI_nat (j := 6) rfl
theorem atI7 : atI (a :: b :: c :: d :: e :: f :: g :: h :: xs) 7 = some h := atI_nat (j := 7) rfl
end
/-! alike -/
theorem eq_self {x : D} {Q : D → Prop} (h : plain x = true) (q : Q (.bl true)) : oEq x x Q := by
  have e : eqb x x = true := eqb_refl (Bool.and_eq_true_iff.mp h).1
  cases x with
  | str a => show Q (.bl (decide (a = a))); rw [decide_eq_true rfl]; exact q
  | int a => show Q (.bl (decide (a = a))); rw [decide_eq_true rfl]; exact q
  | bl a => show Q (.bl (a == a)); rw [beq_self_eq_true]; exact q
  | non => exact ⟨⟨h, h⟩, by rw [e]; exact q⟩
  | lst xs => exact ⟨⟨h, h⟩, by rw [e]; exact q⟩
  | tup xs => exact ⟨⟨h, h⟩, by rw [e]; exact q⟩
  | dic _ => exact ⟨⟨h, h⟩, by rw [e]; exact q⟩
  | obj _ _ => exact ⟨⟨h, h⟩, by rw [e]; exact q⟩
  | bag => exact ⟨⟨h, h⟩, by rw [e]; exact q⟩
  | ktup _ => exact ⟨⟨h, h⟩, by rw [e]; exact q⟩
def S__law_alike : FD := fun ds Q => match ds with
  | [x, y] => (x = y ∧ plain x = true ∧ x.wt ≤ 16000000) ∧ Q (.bl true)
  | _ => False
def S__law_take : FD := fun ds Q => match ds with
  | [.bag, .int n] => (0 < n ∧ n.natAbs.log2 < 9000) ∧ ∀ v, 0 ≤ v → v < n → Q (.int v)
  | _ => False
theorem small_log {n : Int} (h0 : 0 < n) (h1 : n < 1000000000) : n.natAbs.log2 < 9000 := by
  have h2 : n.natAbs.log2 < 30 := (Nat.log2_lt (by omega)).mpr (by omega)
  omega
end DL
namespace DL
open PySem PySem.Spec PyProof.Rows L2 Evl

/-! what the top has left: from what can be looked up -/
section
variable {K : PySem.W.Frag} {mg : Str → Option Value} {h : Heap} {x qual : Str} {st : Stmt} {ps : List Str} {f C p : Addr} {oc : Value} {od an : Option Addr} {osl : Array (Option Value)} {kV doc pm cdv ct : Value} {rest : List Value}
def mkDef (X : K.In h) (G : h.Ns mainGlobals mg) (b : ∀ (kV doc pm : Value) (an : Option Addr) (cdv ct : Value) (us : List Value), us.length = ps.length → bindArgs (PySem.W.fnOf x x (defArgs st) (defBody st) (defScope st) .none kV doc pm an cdv ct) ⟨us, []⟩ = pure (ps.zip us))
    (a : PySem.W.nsIn K mainGlobals x = some (some (.ref f))) (l : K.lookup f = some ⟨oc, od, .func (PySem.W.fnOf x x (defArgs st) (defBody st) (defScope st) .none kV doc pm an cdv ct), osl⟩) (c : PySem.W.codeIn K cdv x = true) (k : PySem.W.keepIn K (.ref f) = true) : DefAt K mg x st ps :=
  ⟨f, _, fun_mk l c k, (fun_mk l c k).binds b, PySem.W.mg_of X G a⟩
def mkIn (b : ∀ (kV doc pm : Value) (an : Option Addr) (cdv ct : Value) (us : List Value), us.length = ps.length → bindArgs (PySem.W.fnOf x qual (defArgs st) (defBody st) (defScope st) .none kV doc pm an cdv ct) ⟨us, []⟩ = pure (ps.zip us))
    (l : K.lookup f = some ⟨oc, od, .func (PySem.W.fnOf x qual (defArgs st) (defBody st) (defScope st) .none kV doc pm an cdv ct), osl⟩) (c : PySem.W.codeIn K cdv qual = true) (k : PySem.W.keepIn K (.ref f) = true) : InAt K x qual st ps :=
  ⟨f, _, fun_mk l c k, (fun_mk l c k).binds b⟩
theorem ex_def (X : K.In h) (G : h.Ns mainGlobals mg) (b : ∀ (kV doc pm : Value) (an : Option Addr) (cdv ct : Value) (us : List Value), us.length = ps.length → bindArgs (PySem.W.fnOf x x (defArgs st) (defBody st) (defScope st) .none kV doc pm an cdv ct) ⟨us, []⟩ = pure (ps.zip us))
    (a : PySem.W.nsIn K mainGlobals x = some (some (.ref f))) (l : K.lookup f = some ⟨oc, od, .func (PySem.W.fnOf x x (defArgs st) (defBody st) (defScope st) .none kV doc pm an cdv ct), osl⟩) (c : PySem.W.codeIn K cdv x = true) (k : PySem.W.keepIn K (.ref f) = true) : Nonempty (DefAt K mg x st ps) := ⟨mkDef X G b a l c k⟩
/-- the law's own def: bound in every world -/
theorem ex_law {y : Str} (X : K.In h) (G : h.Ns mainGlobals mg) (b : ∀ (kV doc pm : Value) (an : Option Addr) (cdv ct : Value) (us : List Value), us.length = [y].length → bindArgs (PySem.W.fnOf x x (defArgs st) (defBody st) (defScope st) .none kV doc pm an cdv ct) ⟨us, []⟩ = pure ([y].zip us))
    (a : PySem.W.nsIn K mainGlobals x = some (some (.ref f))) (l : K.lookup f = some ⟨oc, od, .func (PySem.W.fnOf x x (defArgs st) (defBody st) (defScope st) .none kV doc pm an cdv ct), osl⟩) (c : PySem.W.codeIn K cdv x = true) (k : PySem.W.keepIn K (.ref f) = true) :
    ∃ t : DefAt K mg x st [y], ∀ (s : Shared) (v : Value), BindsTo s t.fd ⟨[v], []⟩ [(y, v)] := ⟨mkDef X G b a l c k, fun _ v => .of_eq (b kV doc pm an cdv ct [v] rfl)⟩
theorem ex_meth (b : ∀ (kV doc pm : Value) (an : Option Addr) (cdv ct : Value) (us : List Value), us.length = ps.length → bindArgs (PySem.W.fnOf x qual (defArgs st) (defBody st) (defScope st) .none kV doc pm an cdv ct) ⟨us, []⟩ = pure (ps.zip us))
    (a : PySem.W.findIn K (.ref C) x = some (some (.ref f))) (i : PySem.W.isFn K (.ref f) = true) (l : K.lookup f = some ⟨oc, od, .func (PySem.W.fnOf x qual (defArgs st) (defBody st) (defScope st) .none kV doc pm an cdv ct), osl⟩) (c : PySem.W.codeIn K cdv qual = true) (k : PySem.W.keepIn K (.ref f) = true) :
    ∃ t : InAt K x qual st ps, Meth K C x t.f := ⟨mkIn b l c k, a, i, k⟩
theorem ex_init (b : ∀ (kV doc pm : Value) (an : Option Addr) (cdv ct : Value) (us : List Value), us.length = ps.length → bindArgs (PySem.W.fnOf "__init__" qual (defArgs st) (defBody st) (defScope st) .none kV doc pm an cdv ct) ⟨us, []⟩ = pure (ps.zip us))
    (a : PySem.W.findIn K (.ref C) "__init__" = some (some (.ref f))) (i : PySem.W.isFn K (.ref f) = true) (l : K.lookup f = some ⟨oc, od, .func (PySem.W.fnOf "__init__" qual (defArgs st) (defBody st) (defScope st) .none kV doc pm an cdv ct), osl⟩) (c : PySem.W.codeIn K cdv qual = true) (k : PySem.W.keepIn K (.ref f) = true) (mk : PySem.W.makesIn K C = true) (kc : PySem.W.keepIn K (.ref C) = true) :
    ∃ t : InAt K "__init__" qual st ps, Mk K C t.f := ⟨mkIn b l c k, mk, a, i, kc⟩
theorem ex_call (b : ∀ (kV doc pm : Value) (an : Option Addr) (cdv ct : Value) (us : List Value), us.length = ps.length → bindArgs (PySem.W.fnOf "__call__" qual (defArgs st) (defBody st) (defScope st) .none kV doc pm an cdv ct) ⟨us, []⟩ = pure (ps.zip us))
    (a : PySem.W.findIn K (.ref C) "__call__" = some (some (.ref f))) (i : PySem.W.isFn K (.ref f) = true) (l : K.lookup f = some ⟨oc, od, .func (PySem.W.fnOf "__call__" qual (defArgs st) (defBody st) (defScope st) .none kV doc pm an cdv ct), osl⟩) (c : PySem.W.codeIn K cdv qual = true) (k : PySem.W.keepIn K (.ref f) = true) (fi : PySem.W.fnIn K f = true) :
    ∃ t : InAt K "__call__" qual st ps, StX.CallO K C t.f := ⟨mkIn b l c k, a, i, fi⟩
theorem ex_prop (b : ∀ (kV doc pm : Value) (an : Option Addr) (cdv ct : Value) (us : List Value), us.length = ps.length → bindArgs (PySem.W.fnOf x qual (defArgs st) (defBody st) (defScope st) .none kV doc pm an cdv ct) ⟨us, []⟩ = pure (ps.zip us))
    (a : PySem.W.findIn K (.ref C) x = some (some (.ref p))) (g : PySem.W.specialIn K (.ref p) "__get__" = some (some (.builtin "property.__get__"))) (tk : PySem.W.takesIn K (.ref p) = some true) (r : PySem.W.recIn K p "property" = some (.ref f :: rest))
    (l : K.lookup f = some ⟨oc, od, .func (PySem.W.fnOf x qual (defArgs st) (defBody st) (defScope st) .none kV doc pm an cdv ct), osl⟩) (c : PySem.W.codeIn K cdv qual = true) (k : PySem.W.keepIn K (.ref f) = true) :
    ∃ t : InAt K x qual st ps, PrpAt K C x t.f := ⟨mkIn b l c k, p, a, g, tk, rest, r⟩
theorem ex_slot {i : Nat} (a : PySem.W.findIn K (.ref C) x = some (some (.ref p))) (g : PySem.W.specialIn K (.ref p) "__get__" = some (some (.builtin "member_descriptor.__get__"))) (tk : PySem.W.takesIn K (.ref p) = some true) (ty : PySem.W.typeIn K (.ref p) = some (.type "member_descriptor")) (ix : PySem.W.slotIn K p C = some i) (lt : i < 1000) : SlotAt K C x i := ⟨p, a, g, tk, ty, ix, lt⟩
end
end DL
namespace DL
open PySem PySem.Spec PyProof.Rows L2 Evl

section
variable {X : Cx} {B : Bx} {e : Expr} {r : DE} {pos : Pos} {C : Nat}
/-! x op= e -/
def oIAdd : O2 := fun x y Q => match x, y with
  | .int i, .int j => Q (.int (i + j))
  | .str a, .str b => a.length + b.length ≤ sizeLine ∧ Q (.str (a ++ b))
  | _, _ => False
theorem iop_add_d : OpR X (inplaceOp .Add) (rLift X.K B oIAdd) := by
  intro pins s σ H x y v u P I rx ry q
  obtain ⟨G, dx, dy, Q, j, hx, hy, hq, k⟩ := q
  cases hx with
  | int a =>
    cases hy with
    | int b => exact iop_add pins s σ H _ _ v u P I rx ry ⟨a, b, rfl, rfl, k _ _ G H hq (Gr.refl j) (.int _)⟩
    | _ => exact hq.elim
  | str a =>
    cases hy with
    | str b => exact iop_add_str pins s σ H _ _ v u P I rx ry ⟨a, b, rfl, rfl, hq.1, k _ _ G H hq.2 (Gr.refl j) (.str _)⟩
    | _ => exact hq.elim
  | _ => exact hq.elim
theorem psd_aug {i : Nat} {x : Str} {op : Operator} {o : O2} {pos' : Pos} (hN : X.N.Nodup) (hi : X.N[i]? = some x) (hx : Loc X.env.scope x) (ho : OpR X (inplaceOp op) (rLift X.K B o)) (he : PD X B e r) (hf : X.fn x = true ∨ X.env.scope.names.lookup x = some .local := by first | exact .inl rfl | exact .inr rfl | assumption) :
    PSD X B (.AugAssign (.Name x pos') op e pos) (dAug o i r) := ps_mono (ps_aug hN hi hx he ho hf) fun E σ H q => by
  obtain ⟨G0, H0, G, δ, W, g0, st, h, k⟩ := q
  unfold dAug at h
  cases h1 : δ[i]? with
  | none => rw [h1] at h; exact h.elim
  | some o' =>
    cases o' with
    | none => rw [h1] at h; exact h.elim
    | some z =>
      cases z with
      | ow xs => rw [h1] at h; exact h.elim
      | nw _ _ _ => rw [h1] at h; exact h.elim
      | sh d =>
        rw [h1] at h
        obtain ⟨v, hv, hd⟩ := st.sh i d h1
        refine ⟨v, hv, H0, G, δ, _, g0.j, st, h, fun y u G2 H2 q2 g2 h2 => ?_⟩
        refine ⟨G2, d, y, _, g2.j, hd.mono g2.ex, h2, q2, fun z w G3 H3 q3 g3 h3 => ?_⟩
        exact k.nx _ _ _ _ q3 ((g0.trans g2).trans g3) (g2.ex.trans g3.ex) (((st.gr g2).gr g3).set h3)
/-! xs += ys, xs one's own -/
def dExt (i : Nat) (ra : DA) : DTS := fun W δ => match δ[i]? with
  | some (some (.ow v (.lst xs))) => ra δ fun ys => xs.length + ys.length ≤ sizeLine ∧ W.nx (δ.set i (some (.ow v (.lst (xs ++ ys.map .sh)))))
  | _ => False
theorem Owns.len {K : PySem.W.Frag} {G H : Hp} : ∀ {vs : List V} {xs : List OD} {f : List Addr}, Owns K B G H vs xs f → vs.length = xs.length
  | _, _, _, .nil => rfl
  | _, _, _, .cons _ t => by rw [List.length_cons, List.length_cons, Owns.len t]
theorem Owns.append {K : PySem.W.Frag} {G H : Hp} : ∀ {vs ws : List V} {xs ys : List OD} {f g : List Addr}, Owns K B G H vs xs f → Owns K B G H ws ys g → Owns K B G H (vs ++ ws) (xs ++ ys) (f ++ g)
  | _, _, _, _, _, _, .nil, s => s
  | _, _, _, _, _, _, .cons h t, s => by rw [List.append_assoc]; exact .cons h (Owns.append t s)
/-- one's own list changes at its top -/
theorem StF.top {K : PySem.W.Frag} {H0 G H : Hp} {σ : L2.St} {δ : DS} {F : Nat → List Addr} {i : Nat} {p : Addr} {o' : OD} {hob : HO} {f f' : List Addr} (x : StF K B H0 G H σ δ F) (h2 : σ[i]? = some (some (.ref p))) (hF : F i = p :: f) (nd : (F i).Nodup) (hh : ∀ q ∈ F i, H0 q = none ∧ q ≠ B.b)
    (hw : Own K B G (upd H p hob) (.ref p) o' f') (nd' : f'.Nodup) (hf : ∀ q ∈ f', q ∈ F i) : StOk K B H0 G (upd H p hob) σ (δ.set i (some (.ow (.ref p) o'))) := by
  have z := x.put (i := i) (List.getElem?_eq_some_iff.mp h2).1 (Ex.refl G) (H2 := upd H p hob) (fun q _ _ hq => ⟨upd_ne fun e => hq (by rw [hF, e]; exact List.mem_cons_self), rfl⟩) (.ow hw nd' fun q hq => hh q (hf q hq)) fun q hq => .inr (hf q hq)
  rw [set_same h2] at z
  exact ⟨_, z⟩
/-- what stands behind the top is kept -/
theorem Owns.past {K : PySem.W.Frag} {G H : Hp} {vs : List V} {xs : List OD} {f : List Addr} {p : Addr} {ho : HO} (h : Owns K B G H vs xs f) (hp : p ∉ f) : Owns K B G (upd H p ho) vs xs f := h.keep (Ex.refl G) fun q hq => ⟨upd_ne fun e => hp (e ▸ hq), rfl⟩
theorem psd_ext {i : Nat} {x : Str} {ra : DA} {pos' : Pos} (hN : X.N.Nodup) (hi : X.N[i]? = some x) (hx : Loc X.env.scope x) (he : PF X B e ra) (hf : X.fn x = true ∨ X.env.scope.names.lookup x = some .local := by first | exact .inl rfl | exact .inr rfl | assumption) :
    PSD X B (.AugAssign (.Name x pos') .Add e pos) (dExt i ra) := ps_mono (ps_aug hN hi hx he iop_ext hf) fun E σ H q => by
  obtain ⟨G0, H0, G, δ, W, g0, st, h, k⟩ := q
  unfold dExt at h
  cases h1 : δ[i]? with
  | none => rw [h1] at h; exact h.elim
  | some o' =>
    cases o' with
    | none => rw [h1] at h; exact h.elim
    | some z =>
      cases z with
      | sh d => rw [h1] at h; exact h.elim
      | nw _ _ _ => rw [h1] at h; exact h.elim
      | ow v o =>
        cases o with
        | sh _ => rw [h1] at h; exact h.elim
        | dic _ _ => rw [h1] at h; exact h.elim
        | lst xs =>
          rw [h1] at h
          obtain ⟨F, y⟩ := st.ex
          obtain ⟨a1, a2, nd, hh⟩ := y.ow h1
          refine ⟨v, a1, H0, G, δ, _, g0.j, st, h, fun ds p2 ws G2 H2 q2 g2 hp2 gp2 h2 hd => ?_⟩
          have y2 := y.gr g2
          obtain ⟨b1, b2, _, _⟩ := y2.ow h1
          generalize hF : F i = fi at b2
          cases b2 with
          | @lst p vs _ f c1 c2 c3 =>
            have nd2 : (p :: f).Nodup := hF ▸ nd
            refine ⟨p, p2, vs, ws, rfl, rfl, c1, h2, by rw [c3.len, hd.len]; exact q2.1, ?_⟩
            show E.nx (σ.set i (some (.ref p))) _
            rw [set_same a1]
            have hp := hh p (by rw [hF]; exact List.mem_cons_self)
            refine k.nx _ _ _ _ q2.2 ((g0.trans g2).own hp.1 c2 hp.2) g2.ex (StF.top y2 a1 hF nd hh (f' := p :: f) (.lst upd_same c2 ?_) nd2 (by rw [hF]; exact fun q hq => hq))
            have c4 := (c3.past (ho := .lst (vs ++ ws)) (List.nodup_cons.mp nd2).1).append (Owns.of (H := upd H2 p (.lst (vs ++ ws))) hd)
            rw [List.append_nil] at c4
            exact c4

/-! is, is not -/
def oIs (n : Bool) : O2 := fun x y Q => match x, y with
  | .bl a, .bl b => Q (.bl (if n then !decide (a = b) else decide (a = b)))
  | _, _ => False
theorem op_is_d : OpR X (compareOp .Is) (rLift X.K B (oIs false)) := by
  intro pins s σ H x y v u P I rx ry q
  obtain ⟨G, dx, dy, Q, j, hx, hy, hq, k⟩ := q
  cases hx with
  | bl a =>
    cases hy with
    | bl b => exact op_isBl pins s σ H _ _ v u P I rx ry ⟨a, b, rfl, rfl, k _ _ G H hq (Gr.refl j) (.bl _)⟩
    | _ => exact hq.elim
  | _ => exact hq.elim
theorem op_isnot_d : OpR X (compareOp .IsNot) (rLift X.K B (oIs true)) := by
  intro pins s σ H x y v u P I rx ry q
  obtain ⟨G, dx, dy, Q, j, hx, hy, hq, k⟩ := q
  cases hx with
  | bl a =>
    cases hy with
    | bl b => exact op_notBl pins s σ H _ _ v u P I rx ry ⟨a, b, rfl, rfl, k _ _ G H hq (Gr.refl j) (.bl _)⟩
    | _ => exact hq.elim
  | _ => exact hq.elim

/-! isinstance(x, C), a class of the program -/
def dIsC (C : Nat) (r : DE) : DE := fun δ Q => r δ fun d => match d with
  | .obj c _ => match decide (c = C) with
    | true => Q (.bl true)
    | false => False
  | _ => False
theorem pd_isC {cn : Str} {p q : Pos} (c : SlX.SCls X.K (B.ct C)) (si : SlX.SIsi X.K (B.ct C)) (hg : Gl X "isinstance") (hm : X.mg "isinstance" = none) (hgT : Gl X cn) (hmT : X.mg cn = some (.ref (B.ct C))) (he : PD X B e r) (hdb : (cn == ("__debug__" : Str)) = false := by decide)
    (hs1 : starEach [e, .Name cn q] X.env = (false, eval e X.env) :: starEach [.Name cn q] X.env := by rfl) (hs2 : starEach [.Name cn q] X.env = (false, eval (.Name cn q) X.env) :: starEach [] X.env := by rfl) (hpl : (backTo pos (starEach [.Name cn q] X.env)).any (·.1) = false := by rfl) :
    PD X B (.Call (.Name "isinstance" p) [e, .Name cn q] [] pos) (dIsC C r) := pe_mono (pe_callB (SlX.call_isiSl (.ref (B.ct C))) hg hm (by decide +kernel) (pa_cons he (pa_cons (pe_glob (v := .ref (B.ct C)) hgT hmT rfl hdb) pa_nil hs2) hs1) (by decide) (by decide) hs1 hpl) fun σ H P q => by
  obtain ⟨H0, G, δ, Q, j, st, hr, k⟩ := q
  refine ⟨H0, G, δ, _, j, st, hr, fun d v G2 H2 q2 g2 h2 => ?_⟩
  cases h2 with
  | obj h3 h4 h5 =>
    rename_i a dx c' vs fs
    have q2 : (match decide (c' = C) with | true => Q (.bl true) | false => False) := q2
    cases hz : decide (c' = C) with
    | false => rw [hz] at q2; exact q2.elim
    | true =>
      have q3 : Q (.bl true) := by
        rw [hz] at q2
        exact q2
      have e := of_decide_eq_true hz
      subst e
      refine ⟨a, _, dx, _, .ref (B.ct c'), true, rfl, rfl, fun w hw => hw, .inr ⟨g2.j.ex _ _ h3, g2.j.ex _ _ h4⟩, c, si, ?_, k _ _ G2 H2 q3 g2 (.bl _)⟩
      unfold PySem.W.kitOne
      rw [if_pos (by simp)]
  | _ => exact q2.elim
/-! range(a, b, -1) -/
def downs (lo : Int) (n : Nat) : List D := (List.range n).map fun k : Nat => D.int (lo - (k : Int))
def iR3 (ra : DA) : DA := fun δ Q => ra δ fun ds => match ds with
  | [.int a, .int b, .int c] => (c = -1 ∧ -(2 ^ 62) ≤ a ∧ a < 2 ^ 62 ∧ -(2 ^ 62) ≤ b ∧ b < 2 ^ 62) ∧ Q (downs a (a - b).toNat)
  | _ => False
theorem itd_down {K : PySem.W.Frag} {G : Hp} {lo : Int} {n : Nat} : ItD K B (Itc lo (-1) n) G (downs lo n) where
  go := fun i G1 H e j h => by
    have : (downs lo n).length = n := by simp [downs]
    show i < n
    omega
  yld := fun i G1 H x H' d e j h hd => by
    obtain ⟨rfl, rfl⟩ := h
    refine ⟨G1, Gr.refl j, ?_⟩
    unfold downs at hd
    rw [List.getElem?_map] at hd
    cases hr : (List.range n)[i]? with
    | none => rw [hr] at hd; cases hd
    | some k =>
      rw [hr] at hd
      cases hd
      have hk := List.getElem?_eq_some_iff.mp hr
      obtain ⟨h1, h2⟩ := hk
      rw [List.getElem_range] at h2
      subst h2
      have e : lo + (i : Int) * -1 = lo - (i : Int) := by omega
      rw [e]
      exact .int _
  stop := fun i G1 H e j h => by
    have : (downs lo n).length = n := by simp [downs]
    show n ≤ i
    omega
theorem pid_r3 {tg a b c : Expr} {ra : DA} {p : Pos} (hg : Gl X "range") (hm : X.mg "range" = none) (ha : PAD X B [a, b, c] ra) (hs : starEach [a, b, c] X.env = (false, eval a X.env) :: starEach [b, c] X.env := by rfl) (hpl : (backTo pos (starEach [b, c] X.env)).any (·.1) = false := by rfl) :
    PID X B tg (.Call (.Name "range" p) [a, b, c] [] pos) (iR3 ra) :=
  ⟨fun pins s σ H R I h => (pi_range3 (tg := tg) hg hm ha hs hpl).run pins s σ H R I (by
    obtain ⟨H0, G, δ, Q, j, st, hr, k⟩ := h
    refine ⟨H0, G, δ, _, j, st, hr, fun ds vs G2 H2 q2 g2 h2 => ?_⟩
    cases h2 with
    | nil => exact q2.elim
    | cons h3 h4 =>
      cases h3 with
      | int n =>
        cases h4 with
        | nil => exact q2.elim
        | cons h5 h6 =>
          cases h5 with
          | int m =>
            cases h6 with
            | nil => exact q2.elim
            | cons h7 h8 =>
              cases h7 with
              | int l =>
                cases h8 with
                | cons _ _ => exact q2.elim
                | nil =>
                  obtain ⟨⟨e1, b1, b2, b3, b4⟩, q2⟩ := q2
                  subst e1
                  exact ⟨n, m, -1, _, rfl, RgC.neg b1 b2 b3 b4, k _ _ G2 H2 q2 g2 itd_down⟩
              | _ => exact q2.elim
          | _ => exact q2.elim
      | _ => exact q2.elim)⟩
end
end DL
namespace DL
open PySem PySem.Spec PyProof.Rows L2 Evl

/-! x != y by the class's own __eq__ -/
section
open PySem.W
variable {prog : Program} {w : World} {A : Around} {E : Value → Shared → Prop} {s : Shared} {K : Frag} {x C L f : Addr} {h₀ : Heap} {m : Str → Option Value} {ox : Obj} {od : Option Obj} {b tb : Value}
theorem ifBound_B {M : Model} {name : Str} {id : String} {args : List Value} {Q : Option Value → Shared → Prop} (X : K.In s.heap) (I : InstAt s.heap x ox C od) (hs : findIn K (.ref C) name = some (some (.builtin id))) (hb : ∀ self, bindSpecial (.builtin id) self = pure (.builtin id, [self]))
    (h : wpAny M A (call (.builtin id) (.ref x :: args)) (fun v => Q (some v)) E s) : wpAny M A (callSpecialIfBound? (.ref x) name args) Q E s := by
  simp only [callSpecialIfBound?, bindSpecialIfBound?]
  refine wpAny_holding (wpAny_bind (wpAny_bind (wpAny_bind (I.type.here ((looks_findIn X hs).here ?_)))))
  refine wpAny_bind (wpAny_askSetting (wpAny_ite ?_))
  have fin : wpAny M A (call (.builtin id) ([.ref x] ++ args) >>= fun v => pure (some v)) Q E s := wpAny_bind (wpAny_mono h (fun v s' h' => wpAny_pure h') fun _ _ h' => h')
  split
  · exact wpAny_bind ((Looks.of_pure (hb _)).here (wpAny_pure (by exact fin)))
  · exact wpAny_tryCatch (wpAny_bind ((Looks.of_pure (hb _)).here (wpAny_pure (by exact fin))))
open Builtin in
theorem cmp_ne_K {Q : Value → Shared → Prop} (hu : A.units + 1 < cLine) (X : K.In s.heap) (I : InstAt s.heap x ox C od) (hb : Looks (model prog w) s.heap (typeOf b) tb) (hn : notFirst K C tb = true)
    (hs : findIn K (.ref C) "__ne__" = some (some (.builtin "object.__ne__"))) (he : findIn K (.ref C) "__eq__" = some (some (.ref f))) (hf : isFn K (.ref f) = true) (hm : mroIn K C (.type "object") = some true)
    (h : wpAny (model prog w) A.in1 (call (.ref f) [.ref x, b]) (fun v s' => ∃ c, v = .bool c ∧ Q (.bool (!c)) s') E s) : wpAny (model prog w) A (richCompare .NotEq (.ref x) b) Q E s := by
  have one : wpAny (model prog w) A (tryCompare (.ref x) "__ne__" b) (fun r s' => ∃ v, r = some v ∧ Q v s') E s := by
    unfold tryCompare
    refine wpAny_bind (ifBound_B X I hs PySem.F.slot_object_ne.bind ?_)
    refine wpAny_call (codeAny_call_builtin PySem.F.slot_object_ne.plain PySem.F.cmpEntry_ne (check_slot (i := "object.__ne__") (owner := "object") (n := "__ne__") (by decide +kernel) (by decide +kernel) (I.type.andThen (looks_mroIn X hm)) (PySem.F.cmpArgs_ne _ _) ?_))
    unfold Builtin.«object.__ne__»
    refine wpAny_bind (m := slotArgs "__ne__" 1 _) (wpAny_pure ?_)
    refine wpAny_bind (m := cRoomFor _ _) (wpAny_cRoomFor hu ?_)
    refine wpAny_bind (m := callSpecialIfBound? (.ref x) (Str.ofString "__eq__") _) (ifBound_K X I he hf (wpAny_mono h (fun r s' hq => ?_) fun _ _ y => y))
    obtain ⟨c, rfl, hq⟩ := hq
    refine wpAny_bind (m := truthy (.bool _)) (wpAny_truthy_bool ?_)
    exact wpAny_pure (wpAny_pure ⟨_, rfl, hq⟩)
  unfold richCompare
  simp only [oneThing_ref]
  refine wpAny_holding (wpAny_bind (wpAny_cRoomFor (Nat.lt_of_succ_lt hu) ?_))
  refine wpAny_bind (I.type.here (wpAny_bind (hb.here ?_)))
  split
  · rename_i q
    have e : subIn K tb (.ref C) = some false := by
      rcases Bool.or_eq_true_iff.mp hn with e | e
      · rw [beq_iff_eq.mp e] at q; simp at q
      · exact beq_iff_eq.mp e
    refine wpAny_bind ((looks_subIn X e).here ?_)
    simp only [Bool.false_eq_true, if_false]
    refine wpAny_bind (wpAny_mono one (fun r s' z => ?_) fun _ _ e => e)
    obtain ⟨v, rfl, hq⟩ := z
    exact wpAny_pure hq
  · refine wpAny_bind (wpAny_pure ?_)
    simp only [Bool.false_eq_true, if_false]
    refine wpAny_bind (wpAny_mono one (fun r s' z => ?_) fun _ _ e => e)
    obtain ⟨v, rfl, hq⟩ := z
    exact wpAny_pure hq
end
section
variable {X : Cx} {B : Bx} {g : Addr} {C k : Nat} {S : FD}
def oOwnNe (C : Nat) (S : FD) : O2 := fun x y Q => isO C x ∧ isO C y ∧ S [x, y] fun z => match z with
  | .bl b => Q (.bl (!b))
  | _ => False
theorem op_ne_own (nf : PySem.W.notFirst X.K (B.ct C) (.ref (B.ct C)) = true) (hs : PySem.W.findIn X.K (.ref (B.ct C)) "__ne__" = some (some (.builtin "object.__ne__"))) (he : PySem.W.findIn X.K (.ref (B.ct C)) "__eq__" = some (some (.ref g))) (hf : PySem.W.isFn X.K (.ref g) = true)
    (hm : PySem.W.mroIn X.K (B.ct C) (.type "object") = some true) (F : FnR X.prog X.w X.K X.mg X.base CX0 k g (spD X.K B S)) (hr : Room (k + 1) X.A) : OpR X (compareOp .NotEq) (rLift X.K B (oOwnNe C S)) := by
  intro pins s σ H x y v u P I rx ry q
  obtain ⟨G, dx, dy, Q, j, hx, hy, ⟨o1, o2, hq⟩, kk⟩ := q
  cases hx with
  | @obj a d1 C1 vs fs h3 h4 h5 =>
    cases hy with
    | @obj b d2 C2 ws gs h6 h7 h8 =>
      have o1 : C1 = C := o1
      have o2 : C2 = C := o2
      subst o1 o2
      cases (show v = Value.ref a from rx)
      cases (show u = Value.ref b from ry)
      obtain ⟨sl, od, _, J, _⟩ := SlX.slt_inst I (obj_slt (K := X.K) (B := B) j.ex h3 h4)
      obtain ⟨sl', od', _, J', _⟩ := SlX.slt_inst I (obj_slt (K := X.K) (B := B) j.ex h6 h7)
      have hu : X.A.units + 1 < cLine := hr.in1.units0
      refine cmp_ne_K (tb := .ref (B.ct C2)) hu I.kIn J J'.type nf hs he hf hm ?_
      refine wpAny_mono (wpAny_call (SlX.run_at (E := E0) (us := [.ref a, .ref b]) (ws := [.ref a, .ref b]) (Q := fun z H' => ∃ c, z = .bl c ∧ P (.bl (!c)) H') F hr.in1 I.env0.in1 pass0 I (.cons rfl (.cons rfl .nil)) ⟨G, _, _, j, .cons (.obj h3 h4 h5) (.cons (.obj h6 h7 h8) .nil), hq, fun d v G2 H2 q2 g2 h2 => ?_⟩)) (fun w s' z => ?_) fun _ _ x => x
      · cases h2 with
        | bl c => exact ⟨c, rfl, kk _ _ G2 H2 q2 g2 (.bl _)⟩
        | _ => exact q2.elim
      · obtain ⟨z', H', I', rz, c, rfl, qz⟩ := z
        cases (show w = Value.bool c from rz)
        exact ⟨c, rfl, .bl (!c), H', I', rfl, qz⟩
    | _ => exact o2.elim
  | _ => exact o1.elim
end
end DL
namespace DL
open PySem PySem.Spec PyProof.Rows L2 Evl

/-! C.m(x), a staticmethod of a class -/
structure SmAt (K : PySem.W.Frag) (C : Addr) (m : Str) (g : Addr) : Prop where
  ga : PySem.W.specialIn K (.ref C) "__getattribute__" = some (some (.builtin "type.__getattribute__"))
  rd : PySem.W.readsIn K C (.type "type") = true
  kp : PySem.W.keepIn K (.ref g) = true
  ex : ∃ p, PySem.W.findCls K (.ref C) (.type "type") m = some (.get (.builtin "staticmethod.__get__") (.ref p) .none (.ref C)) ∧ ∃ rest, PySem.W.recIn K p "staticmethod" = some (.ref g :: rest)
section
variable {X : Cx} {B : Bx} {e : Expr} {es : List Expr} {pos : Pos} {g : Addr} {m cn : Str} {k C : Nat} {S : FD} {ra : DA}
theorem pd_sm {pl : Sem Bool} {apos p : Pos} (T : SmAt X.K (B.ct C) m g) (F : FnR X.prog X.w X.K X.mg X.base CX0 k g (spD X.K B S)) (hr : Room k X.A) (hg : Gl X cn) (hm : X.mg cn = some (.ref (B.ct C))) (ha : PAD X B (e :: es) ra) (hd : (cn == ("__debug__" : Str)) = false := by decide)
    (hst : starEach (e :: es) X.env = (false, eval e X.env) :: starEach es X.env := by rfl) (hpl : (backTo pos (starEach es X.env)).any (·.1) = false := by rfl)
    (ht : eval (.Call (.Attribute (.Name cn p) m apos) (e :: es) [] pos) X.env = (do let ov ← eval (.Name cn p) X.env; standAt apos.atName; let (f, first) ← holding [ov] (getMethod ov m pl); callWith pos f first (backTo pos (starEach (e :: es) X.env)) (backToKw pos (keywordEach [] X.env))) := by rfl) :
    PD X B (.Call (.Attribute (.Name cn p) m apos) (e :: es) [] pos) (dCall S ra) := by
  refine ⟨fun pins s σ H Q I q => ?_⟩
  refine PySem.W.methodCall_KW (pl := pl) (thn ((pe_glob (v := .ref (B.ct C)) hg hm rfl hd).run pins s σ H (fun v H1 => v = .ref (B.ct C) ∧ H1 = H) I ⟨rfl, rfl⟩) fun u s1 ⟨x, H1, I1, rx, ex, eh⟩ => ?_) ht
  subst ex eh
  obtain rfl : u = Value.ref (B.ct C) := rx
  obtain ⟨p, h1, rest, h2⟩ := T.ex
  refine PySem.W.method_cls I1.kIn T.ga (PySem.W.cls_bind I1.kIn T.rd h1 (wpAny_call (PySem.W.sm_get (s := { s1 with toks := s1.toks + 1 }) I1.kIn h2 (PySem.W.handed_on rfl ?_))))
  have I2 : Inv X pins σ H1 { s1 with toks := s1.toks + 1 } := I1.tok _
  refine PySem.W.callWith_K (first := []) (h₀ := X.base) I.ok.mod.kin T.kp (thn (ha.run pos pins _ σ H1 _ I2 (liftC q)) fun us s2 ⟨ws, H2, I3, r, q2⟩ => ⟨I3.kIn, ?_⟩) hst hpl
  exact wpAny_call (run_fnR (E := E0) (us := us) (vs := ws) F hr pass0 I3 r q2)
end

/-! constants of the module -/
def strVals : List Value → Option (List Str)
  | [] => some []
  | .str x _ :: r => (strVals r).map (x :: ·)
  | _ :: _ => none
def cTup (xs : List Str) : D := .ktup (xs.map .str)
theorem strVals_ok {K : PySem.W.Frag} {B : Bx} {G : Hp} : ∀ {us : List Value} {xs : List Str}, strVals us = some xs → Vals (xs.map V.str) us ∧ Dats K B G (xs.map V.str) (xs.map .str)
  | [], xs, h => by cases h; exact ⟨.nil, .nil⟩
  | .str x t :: r, xs, h => by
    have h : (strVals r).map (x :: ·) = some xs := h
    cases e : strVals r with
    | none => rw [e] at h; cases h
    | some ys =>
      rw [e] at h
      cases h
      obtain ⟨h1, h2⟩ := strVals_ok (K := K) (B := B) (G := G) e
      exact ⟨.cons ⟨t, rfl⟩ h1, .cons (.str x) h2⟩
  | .none :: _, _, h => nomatch h
  | .bool _ :: _, _, h => nomatch h
  | .int _ _ :: _, _, h => nomatch h
  | .ref _ :: _, _, h => nomatch h
theorem ex_tupS {K : PySem.W.Frag} {mg : Str → Option Value} {h : Heap} {x : Str} {p : Addr} {o : Obj} {its : Array Value} {n : Nat} {xs : List Str} (X : K.In h) (G : h.Ns mainGlobals mg) (a : PySem.W.nsIn K mainGlobals x = some (some (.ref p))) (l : K.lookup p = some o) (c : o.cls = .type "tuple") (d : o.data = .seq its n)
    (z : its.size ≤ sizeLine) (v : strVals its.toList = some xs) : ∃ p, mg x = some (.ref p) ∧ ∀ B G, Dat K B G (.ref p) (cTup xs) :=
  ⟨p, PySem.W.mg_of X G a, fun B G => by
    obtain ⟨h1, h2⟩ := strVals_ok (K := K) (B := B) (G := G) v
    exact .ktup (.inr ⟨o, its, n, l, c, d, z, h1⟩) h2⟩

/-! dicts: {"a": .., "b": ..}, d[k] -/
def zipS (ks : List Str) (ds : List D) : List (D × D) := (ks.zip ds).map fun z => (.str z.1, z.2)
def dDic (ks : List Str) (ra : DA) : DE := fun δ Q => ra δ fun ds => match decide (ds.length = ks.length) with
  | true => Q (.dic (zipS ks ds))
  | false => False
def liftP (K : PySem.W.Frag) (B : Bx) (ks : List Str) (ra : DA) (σ : L2.St) (H : Hp) (P : List (V × V) → Hp → Prop) : Prop := ∃ (H0 G : Hp) (δ : DS) (Q : List D → Prop), Jn K B G H ∧ StOk K B H0 G H σ δ ∧ ra δ Q ∧ ∀ ds vs G2 H2, Q ds → Gr K B G H G2 H2 → Dats K B G2 vs ds → P ((ks.zip vs).map fun z => (.str z.1, z.2)) H2
structure PPD (X : Cx) (B : Bx) (pos : Pos) (keys : List (Option Expr)) (values : List Expr) (ks : List Str) (ra : DA) : Prop where
  ex : ∃ trs, PPs X pos keys values trs ∧ ∀ σ H P, liftP X.K B ks ra σ H P → tPairs trs σ H P
section
variable {X : Cx} {B : Bx} {pos : Pos} {keys : List (Option Expr)} {values : List Expr} {ks : List Str} {ra : DA} {r ry : DE} {e o i : Expr}
theorem ppd_nil : PPD X B pos [] [] [] dNil := ⟨[], pps_nil, fun σ H P q => by
  obtain ⟨H0, G, δ, Q, j, st, hr, k⟩ := q
  exact k [] [] G H hr (Gr.refl j) .nil⟩
theorem ppd_cons {x : Str} {j : Nat} {kp : Pos} (hv : PD X B e r) (h : PPD X B pos keys values ks ra) : PPD X B pos (some (.Constant (.str x) j kp) :: keys) (e :: values) (x :: ks) (dCons r ra) := by
  obtain ⟨trs, h1, h2⟩ := h.ex
  refine ⟨(tC (.str x), liftE X.K B r) :: trs, pps_cons pe_str hv h1, fun σ H P q => ?_⟩
  obtain ⟨H0, G, δ, Q, jn, st, hr, k⟩ := q
  refine ⟨H0, G, δ, _, jn, st, hr, fun d v G2 H2 q2 g2 d2 => ?_⟩
  refine h2 σ H2 _ ⟨H0, G2, δ, _, g2.j, st.gr g2, q2, fun ds vs G3 H3 q3 g3 d3 => ?_⟩
  exact k _ _ G3 H3 q3 (g2.trans g3) (.cons (d2.mono g3.ex) d3)
theorem merge_nd : ∀ (kvs acc : List (Key × V)), ((acc ++ kvs).map (·.1)).Nodup → mergeK acc kvs = acc ++ kvs
  | [], acc, _ => by rw [List.append_nil]; rfl
  | (k, v) :: r, acc, h => by
    have e : putK acc k v = acc ++ [(k, v)] := by
      unfold putK
      rw [if_neg]
      intro z
      obtain ⟨kv, h1, h2⟩ := List.any_eq_true.mp z
      have h2 : kv.1 = k := of_decide_eq_true h2
      rw [List.map_append, List.nodup_append] at h
      exact h.2.2 kv.1 (List.mem_map_of_mem h1) k (by simp) h2
    show mergeK (putK acc k v) r = _
    rw [e, merge_nd r _ (by rw [List.append_assoc]; exact h), List.append_assoc]
    rfl
theorem datK_zip {K : PySem.W.Frag} {G : Hp} : ∀ {ks : List Str} {vs : List V} {ds : List D}, Dats K B G vs ds → DatK K B G ((ks.zip vs).map fun z => (.inr z.1, z.2)) (zipS ks ds)
  | [], _, _, _ => .nil
  | _ :: _, _, _, .nil => .nil
  | k :: ks, _, _, .cons h t => .consS h (datK_zip (ks := ks) t)
/-- what is new is locked for ever -/
theorem pe_lockR {t t' : TE} (h : PE X e t) (m : ∀ σ H Q, t' σ H Q → t σ H fun v H1 => ∃ d u, H1 d = some u ∧ Mut (some u) ∧ ∀ od, Q v (upd H1 d (.frz od u))) : PE X e t' := ⟨fun pins s σ H Q I hw => thn (h.run pins s σ H _ I (m σ H Q hw)) fun u s1 ⟨v, H1, I1, r1, d, o, hd, mu, q⟩ => by
  obtain ⟨od, I2⟩ := I1.lock hd mu
  exact ⟨v, _, I2, r1, q od⟩⟩
theorem pd_dic (h : PPD X B pos keys values ks ra) (hn : ks.Nodup) (hk : keys.all (·.isSome) = true) (hl : keys.length = values.length) (h0 : keys ≠ []) (h15 : keys.length ≤ 15) (hks : ks.length ≤ 15) : PD X B (.Dict keys values pos) (dDic ks ra) := by
  obtain ⟨trs, h1, h2⟩ := h.ex
  refine pe_lockR (pe_disp h1 hk hl h0 h15) fun σ H P q p hp => ?_
  obtain ⟨H0, G, δ, Q, j, st, hr, k⟩ := q
  have g1 : Gr X.K B G H G (upd H p (.dK [])) := Gr.new0 j hp
  have nb : p ≠ B.b := Gr.neB j hp
  have gp : G p = none := fresh_back j.ex hp
  have hpn : Mu (upd H p (.dK [])) p := ⟨_, upd_same, fun _ z => by cases z⟩
  refine h2 σ _ _ ⟨H0, G, δ, _, g1.j, st.gr g1, hr, fun ds vs G2 H2 q2 g2 d2 => ?_⟩
  have e2 : H2 p = some (.dK []) := g2.keep p _ nb upd_same
  have gp2 : G2 p = none := by rw [g2.old p hpn]; exact gp
  have q2 : (match decide (ds.length = ks.length) with | true => Q (.dic (zipS ks ds)) | false => False) := q2
  cases hz : decide (ds.length = ks.length) with
  | false => rw [hz] at q2; exact q2.elim
  | true =>
    rw [hz] at q2
    have hlen := of_decide_eq_true hz
    refine ⟨e2, (ks.zip vs).map fun z => (.inr z.1, z.2), by rw [List.map_map]; rfl, ?_, ?_⟩
    · rw [List.length_map, List.length_zip]; omega
    · have nd : ((([] : List (Key × V)) ++ (ks.zip vs).map fun z : Str × V => ((Sum.inr z.1 : Key), z.2)).map fun x : Key × V => x.1).Nodup := by
        rw [List.nil_append, List.map_map]
        have : ((fun x : Key × V => x.1) ∘ fun z : Str × V => (Sum.inr z.1, z.2)) = (fun x : Str => (Sum.inr x : Key)) ∘ Prod.fst := rfl
        rw [this, ← List.map_map, List.map_fst_zip (by rw [d2.len]; omega)]
        exact List.Pairwise.map _ (fun a b hab z => hab (Sum.inr.inj z)) hn
      rw [merge_nd _ _ nd, List.nil_append]
      refine ⟨p, _, upd_same, trivial, fun od => ?_⟩
      have g3 : Gr X.K B G H G2 (upd (upd H2 p (.dK ((ks.zip vs).map fun z => (.inr z.1, z.2)))) p (.frz od (.dK ((ks.zip vs).map fun z => (.inr z.1, z.2))))) := ((g1.trans g2).own hp gp2 nb).own hp gp2 nb
      exact k _ _ _ _ q2 (g3.frz hp gp2 nb upd_same) (.dK upd_same ((datK_zip d2).mono (Ex.new gp2)))
/-- what stands at a key -/
def keq : D → D → Bool
  | .int a, .int b => decide (a = b)
  | .str a, .str b => decide (a = b)
  | _, _ => false
def lookD (ks : List (D × D)) (y : D) : Option D := (ks.find? fun kv => keq kv.1 y).map (·.2)
theorem look_k {K : PySem.W.Frag} {G : Hp} {k : Key} {y : D} (hy : (match k with | .inl i => D.int i | .inr x => D.str x) = y) : ∀ {kvs : List (Key × V)} {ds : List (D × D)} {d : D}, DatK K B G kvs ds → lookD ds y = some d → ∃ v, valV kvs k = some v ∧ Dat K B G v d
  | _, _, d, .nil, h => by cases h
  | _, _, d, .consI (i := i) hv ht, h => by
    unfold lookD at h
    rw [List.find?_cons] at h
    subst hy
    cases k with
    | inl i' =>
      by_cases e : i = i'
      · subst e
        have : keq (.int i) (.int i) = true := decide_eq_true rfl
        simp only [this, Option.map_some] at h
        cases h
        exact ⟨_, valV_pos rfl, hv⟩
      · have : keq (.int i) (.int i') = false := decide_eq_false e
        simp only [this] at h
        obtain ⟨v, h1, h2⟩ := look_k (k := .inl i') rfl ht h
        exact ⟨v, by rw [valV_neg (fun z => e (Sum.inl.inj z))]; exact h1, h2⟩
    | inr x =>
      have : keq (.int i) (.str x) = false := rfl
      simp only [this] at h
      obtain ⟨v, h1, h2⟩ := look_k (k := .inr x) rfl ht h
      exact ⟨v, by rw [valV_neg (by intro z; cases z)]; exact h1, h2⟩
  | _, _, d, .consS (x := x) hv ht, h => by
    unfold lookD at h
    rw [List.find?_cons] at h
    subst hy
    cases k with
    | inr x' =>
      by_cases e : x = x'
      · subst e
        have : keq (.str x) (.str x) = true := decide_eq_true rfl
        simp only [this, Option.map_some] at h
        cases h
        exact ⟨_, valV_pos rfl, hv⟩
      · have : keq (.str x) (.str x') = false := decide_eq_false e
        simp only [this] at h
        obtain ⟨v, h1, h2⟩ := look_k (k := .inr x') rfl ht h
        exact ⟨v, by rw [valV_neg (fun z => e (Sum.inr.inj z))]; exact h1, h2⟩
    | inl i =>
      have : keq (.str x) (.int i) = false := rfl
      simp only [this] at h
      obtain ⟨v, h1, h2⟩ := look_k (k := .inl i) rfl ht h
      exact ⟨v, by rw [valV_neg (by intro z; cases z)]; exact h1, h2⟩
def isKey : D → Bool
  | .int _ => true
  | .str _ => true
  | _ => false
/-- d[k], a key that is a number or a text -/
def dDGet (r ry : DE) : DE := fun δ Q => r δ fun d => ry δ fun y => match d with
  | .dic ks => isKey y = true ∧ match lookD ks y with
    | some v => Q v
    | none => False
  | _ => False
theorem lookT_none {K : PySem.W.Frag} {G : Hp} {y : D} (f : isKey y = true) : ∀ {kvs : List (List Key × V)} {ds : List (D × D)}, DatT K B G kvs ds → lookD ds y = none
  | _, _, .nil => rfl
  | _, _, .cons _ t => by
    unfold lookD
    rw [List.find?_cons]
    have : ∀ l, keq (.tup l) y = false := fun l => by cases y <;> rfl
    simp only [this]
    exact lookT_none f t
theorem pd_dget (hu : X.A.units + 1 < cLine) (ho : PD X B o r) (hi : PD X B i ry) (hs : NoSl i) : PD X B (.Subscript o i pos) (dDGet r ry) := pe_mono (pe_dget hu ho hi hs) fun σ H P q => by
  obtain ⟨H0, G, δ, Q, j, st, hr, k⟩ := q
  refine ⟨H0, G, δ, _, j, st, hr, fun d v G2 H2 q2 g2 d2 => ?_⟩
  refine ⟨H0, G2, δ, _, g2.j, st.gr g2, q2, fun y u G3 H3 q3 g3 d3 => ?_⟩
  have d4 := d2.mono g3.ex
  have fin : ∀ w x, Q w → Dat X.K B G3 x w → P x H3 := fun w x qw dw => k w x G3 H3 qw (g2.trans g3) dw
  cases d4 with
  | @dK a od kvs ds h1 h2 =>
    have q3 : isKey y = true ∧ (match lookD ds y with | some v => Q v | none => False) := q3
    obtain ⟨f, q4⟩ := q3
    clear q3
    cases hl : lookD ds y with
    | none => rw [hl] at q4; exact q4.elim
    | some w =>
      rw [hl] at q4
      cases d3 with
      | int n =>
        obtain ⟨v, e1, e2⟩ := look_k (k := .inl n) rfl h2 hl
        exact ⟨a, v, rfl, .inl ⟨kvs, .inl n, .inr ⟨od, g3.j.ex _ _ h1⟩, rfl, e1.symm⟩, fin _ _ q4 e2⟩
      | str x =>
        obtain ⟨v, e1, e2⟩ := look_k (k := .inr x) rfl h2 hl
        exact ⟨a, v, rfl, .inl ⟨kvs, .inr x, .inr ⟨od, g3.j.ex _ _ h1⟩, rfl, e1.symm⟩, fin _ _ q4 e2⟩
      | _ => cases f
  | @dT a od kvs ds h1 h2 =>
    have q3 : isKey y = true ∧ (match lookD ds y with | some v => Q v | none => False) := q3
    rw [lookT_none q3.1 h2] at q3
    exact q3.2.elim
  | _ => exact q3.elim
end
theorem room_u1 {k : Nat} {A : Around} (r : Room k A) : A.units + 1 < cLine := by have := r.un; omega
/-- nobody may call it -/
theorem fn_void {P : Program} {w : World} {K : PySem.W.Frag} {mg : Str → Option Value} {base : Heap} {B : Bx} {k : Nat} {f : Addr} {fd : FuncData} {ps : List Str} : FnOk P w K mg base CX0 k f fd ps (spD K B fun _ _ => False) :=
  ⟨fun vs H Q E h => by obtain ⟨_, _, _, _, _, h, _⟩ := h; exact h.elim, fun A outer s H args us vs Q E _ _ _ _ h => by obtain ⟨_, _, _, _, _, h, _⟩ := h; exact h.elim⟩
theorem ex_sm {K : PySem.W.Frag} {x qual : Str} {st : Stmt} {ps : List Str} {f C p : Addr} {oc : Value} {od an : Option Addr} {osl : Array (Option Value)} {kV doc pm cdv ct : Value} {rest : List Value} (b : ∀ (kV doc pm : Value) (an : Option Addr) (cdv ct : Value) (us : List Value), us.length = ps.length → bindArgs (PySem.W.fnOf x qual (defArgs st) (defBody st) (defScope st) .none kV doc pm an cdv ct) ⟨us, []⟩ = pure (ps.zip us))
    (ga : PySem.W.specialIn K (.ref C) "__getattribute__" = some (some (.builtin "type.__getattribute__"))) (rd : PySem.W.readsIn K C (.type "type") = true) (fc : PySem.W.findCls K (.ref C) (.type "type") x = some (.get (.builtin "staticmethod.__get__") (.ref p) .none (.ref C))) (r : PySem.W.recIn K p "staticmethod" = some (.ref f :: rest))
    (l : K.lookup f = some ⟨oc, od, .func (PySem.W.fnOf x qual (defArgs st) (defBody st) (defScope st) .none kV doc pm an cdv ct), osl⟩) (c : PySem.W.codeIn K cdv qual = true) (k : PySem.W.keepIn K (.ref f) = true) :
    ∃ t : InAt K x qual st ps, SmAt K C x t.f := ⟨mkIn b l c k, ga, rd, k, p, fc, rest, r⟩
theorem op_notIn_d {X : Cx} {B : Bx} : OpR X (compareOp .NotIn) (rLift X.K B (oIn true)) := by
  intro pins s σ H x y v u P I rx ry q
  obtain ⟨G, dx, dy, Q, j, hx, hy, hq, k⟩ := q
  cases hy with
  | str z =>
    cases hx with
    | str w =>
      have hq : (match w.cps.toList with | [c] => Q (.bl (!decide (c ∈ z.cps.toList))) | _ => False) := hq
      cases e : w.cps.toList with
      | nil => rw [e] at hq; exact hq.elim
      | cons c r =>
        cases r with
        | cons _ _ => rw [e] at hq; exact hq.elim
        | nil =>
          rw [e] at hq
          exact op_notIn_sign pins s σ H _ _ v u P I rx ry ⟨c, z, by rw [sign_of e], rfl, k _ _ G H hq (Gr.refl j) (.bl _)⟩
    | _ => exact hq.elim
  | lst h1 t1 =>
    obtain ⟨⟨f1, f2⟩, hq⟩ := hq
    refine op_notIn_seq pins s σ H _ _ v u P I rx ry ⟨_, _, rfl, .inl (sq_of (j.ex _ _ h1)), flat_v hx f1, flats_v t1 f2, ?_⟩
    have e := in_v hx f1 t1 f2
    rw [e]
    exact k _ _ G H hq (Gr.refl j) (.bl _)
  | tup h1 t1 =>
    obtain ⟨⟨f1, f2⟩, hq⟩ := hq
    refine op_notIn_seq pins s σ H _ _ v u P I rx ry ⟨_, _, rfl, .inr (tx j.ex h1), flat_v hx f1, flats_v t1 f2, ?_⟩
    have e := in_v hx f1 t1 f2
    rw [e]
    exact k _ _ G H hq (Gr.refl j) (.bl _)
  | ktup h1 t1 =>
    obtain ⟨⟨f1, f2⟩, hq⟩ := hq
    refine op_notIn_seq pins s σ H _ _ v u P I rx ry ⟨_, _, rfl, .inr (ex_t j.ex h1), flat_v hx f1, flats_v t1 f2, ?_⟩
    have e := in_v hx f1 t1 f2
    rw [e]
    exact k _ _ G H hq (Gr.refl j) (.bl _)
  | _ => exact hq.elim
/-- a comprehension over what a list of one's own tells -/
theorem lc_of {α : Type} {i : Nat} {te : DE} {δ : DS} {Q : List D → Prop} (g h : α → D) : ∀ (xs : List α) (acc : List D), (∀ x ∈ xs, ∀ R : D → Prop, R (h x) → te (δ.set i (some (.sh (g x)))) R) → Q (acc ++ xs.map h) → lcD (gN i) dYes te δ Q (xs.map g) acc
  | [], acc, _, q => by
    rw [List.map_nil, List.append_nil] at q
    exact q
  | x :: xs, acc, hx, q => by
    show te (δ.set i (some (.sh (g x)))) fun y => lcD (gN i) dYes te δ Q (xs.map g) (acc ++ [y])
    refine hx x List.mem_cons_self _ (lc_of g h xs _ (fun z hz => hx z (List.mem_cons_of_mem _ hz)) ?_)
    rw [List.append_assoc]
    exact q
end DL
namespace DL
open PySem PySem.Spec PyProof.Rows L2 Evl

/-! evaluation from below: a reading in a state tells something that is as P says -/
def EvD (r : DE) (δ : DS) (P : D → Prop) : Prop := ∀ Q : D → Prop, (∀ d, P d → Q d) → r δ Q
def EvA (r : DA) (δ : DS) (P : List D → Prop) : Prop := ∀ Q : List D → Prop, (∀ d, P d → Q d) → r δ Q
section
variable {δ : DS} {P P1 P2 : D → Prop} {r r1 r2 : DE} {ra : DA} {W : DEnds} {u : DTS} {i j : Nat}
theorem ev_var {d : D} (h : δ[i]? = some (some (.sh d))) (p : P d) : EvD (dVar i) δ P := fun Q k => by
  unfold dVar
  rw [h]
  exact k d p
theorem ev_c {d : D} (p : P d) : EvD (dC d) δ P := fun Q k => k d p
theorem EvD.mono (h : EvD r δ P1) (w : ∀ d, P1 d → P d) : EvD r δ P := fun Q k => h Q fun d p => k d (w d p)
theorem ev_two (h1 : EvD r1 δ P1) (h2 : EvD r2 δ P2) (hp : ∀ x y, P1 x → P2 y → P (.tup [x, y])) : EvD (dTup (dCons r1 (dCons r2 dNil))) δ P := fun Q k =>
  h1 _ fun x px => h2 _ fun y py => k _ (hp x y px py)
theorem ea_nil {P : List D → Prop} (p : P []) : EvA dNil δ P := fun Q k => k _ p
theorem ea_cons {P : List D → Prop} (h : EvD r δ P1) (ha : ∀ x, P1 x → EvA ra δ fun xs => P (x :: xs)) : EvA (dCons r ra) δ P := fun Q k =>
  h _ fun x px => ha x px _ fun xs pxs => k _ pxs
theorem ea_lst {P : List D → Prop} (h : EvA ra δ fun ds => ds.length ≤ 1000 ∧ P ds) : EvA (fLst ra) δ P := fun Q k => h _ fun ds p => by
  rw [decide_eq_true p.1]
  exact k _ p.2
theorem ev_f {P : List D → Prop} (h : EvA ra δ P) (w : ∀ ds, P ds → P1 (.lst ds)) : EvD (dF ra) δ P1 := fun Q k => h _ fun ds p => k _ (w ds p)
theorem st_set (h : EvD r δ P) (k : ∀ d, P d → u W (δ.set i (some (.sh d)))) : dSeq (dSet i r) u W δ := h _ k
theorem st_par (h1 : EvD r1 δ P1) (h2 : EvD r2 δ P2) (k : ∀ x y, P1 x → P2 y → u W ((δ.set i (some (.sh x))).set j (some (.sh y)))) : dSeq (dPar i j (dCons r1 (dCons r2 dNil))) u W δ := h1 _ fun x px => h2 _ fun y py => k x y px py
end
/-! max, min, sum of a list of numbers -/
theorem ints_v {K : PySem.W.Frag} {B : Bx} {G : Hp} : ∀ {ns : List Int} {vs : List V}, Dats K B G vs (ns.map D.int) → vs = ns.map V.int
  | [], _, .nil => rfl
  | _ :: _, _, .cons h t => by
    cases h
    rw [ints_v t]
    rfl
def cMaxL : FD := fun ds Q => match ds with
  | [.lst xs] => ∃ ns : List Int, xs = ns.map .int ∧ 0 < ns.length ∧ ∀ m, m ∈ ns → (∀ y, y ∈ ns → y ≤ m) → Q (.int m)
  | _ => False
def cMinL : FD := fun ds Q => match ds with
  | [.lst xs] => ∃ ns : List Int, xs = ns.map .int ∧ 0 < ns.length ∧ ∀ m, m ∈ ns → (∀ y, y ∈ ns → m ≤ y) → Q (.int m)
  | _ => False
def cSumL : FD := fun ds Q => match ds with
  | [.lst xs] => ∃ ns : List Int, xs = ns.map .int ∧ Q (.int ns.sum)
  | _ => False
section
variable {X : Cx} {B : Bx}
theorem call_maxL_d (hc : X.calm = true) : CallR X (.builtin "max") (cLift X.K B cMaxL) := by
  intro pins s σ H vs us P I rv q
  obtain ⟨G, ds, Q, j, hd, hq, k⟩ := q
  cases hd with
  | nil => exact hq.elim
  | cons h1 h2 =>
    cases h1 with
    | lst hp t =>
      cases h2 with
      | cons _ _ => exact hq.elim
      | nil =>
        obtain ⟨ns, rfl, hl, hm⟩ := hq
        have e := ints_v t
        subst e
        exact cr_max hc pins s σ H _ us P I rv ⟨_, ns, rfl, sq_of (j.ex _ _ hp), hl, fun m h3 h4 => k _ _ G H (hm m h3 h4) (Gr.refl j) (.int _)⟩
    | _ => exact hq.elim
theorem call_minL_d (hc : X.calm = true) : CallR X (.builtin "min") (cLift X.K B cMinL) := by
  intro pins s σ H vs us P I rv q
  obtain ⟨G, ds, Q, j, hd, hq, k⟩ := q
  cases hd with
  | nil => exact hq.elim
  | cons h1 h2 =>
    cases h1 with
    | lst hp t =>
      cases h2 with
      | cons _ _ => exact hq.elim
      | nil =>
        obtain ⟨ns, rfl, hl, hm⟩ := hq
        have e := ints_v t
        subst e
        exact cr_min hc pins s σ H _ us P I rv ⟨_, ns, rfl, sq_of (j.ex _ _ hp), hl, fun m h3 h4 => k _ _ G H (hm m h3 h4) (Gr.refl j) (.int _)⟩
    | _ => exact hq.elim
theorem call_sumL_d (hc : X.calm = true) : CallR X (.builtin "sum") (cLift X.K B cSumL) := by
  intro pins s σ H vs us P I rv q
  obtain ⟨G, ds, Q, j, hd, hq, k⟩ := q
  cases hd with
  | nil => exact hq.elim
  | cons h1 h2 =>
    cases h1 with
    | lst hp t =>
      cases h2 with
      | cons _ _ => exact hq.elim
      | nil =>
        obtain ⟨ns, rfl, hm⟩ := hq
        have e := ints_v t
        subst e
        exact cr_sum hc pins s σ H _ us P I rv ⟨_, ns, rfl, sq_of (j.ex _ _ hp), k _ _ G H hm (Gr.refl j) (.int _)⟩
    | _ => exact hq.elim
def cMin : FD := fun ds Q => match ds with
  | [.int i, .int j] => Q (.int (if j < i then j else i))
  | _ => False
theorem call_min_d (hc : X.calm = true) : CallR X (.builtin "min") (cLift X.K B cMin) := by
  intro pins s σ H vs us P I rv q
  obtain ⟨G, ds, Q, j, hd, hq, k⟩ := q
  cases hd with
  | nil => exact hq.elim
  | cons h1 h2 =>
    cases h1 with
    | int a =>
      cases h2 with
      | nil => exact hq.elim
      | cons h3 h4 =>
        cases h3 with
        | int b =>
          cases h4 with
          | cons _ _ => exact hq.elim
          | nil => exact call_min2 hc pins s σ H _ us P I rv ⟨a, b, rfl, k _ _ G H hq (Gr.refl j) (.int _)⟩
        | _ => exact hq.elim
    | _ => exact hq.elim
end
end DL
/-! sum(lists, []) -/
namespace DL
open PySem PySem.Spec PyProof.Rows L2 Evl
open Sem (wp)
def accL (val : Nat → List Value) (b : List Value) : Nat → List Value
  | 0 => b
  | i + 1 => accL val b i ++ val i
section
variable {prog : Program} {w : World} {A : Around} {R : Result → Shared → Prop} {I : Addr} {fp wr : List Addr} {n : Nat} {P : Nat → Value → Prop} {St : Nat → Heap → Prop}
abbrev IsLs (h : Heap) (a : Addr) (xs : List Value) (n : Nat) : Prop := h.get? a = some { cls := .type "list", data := .seq xs.toArray n }
theorem sumL_loop (W : Walks prog w A.in1 I fp wr n P St) (h0 : Heap) (val : Nat → List Value) (b : Addr) (bs : List Value) (hval : ∀ i v, P i v → ∃ p m, v = .ref p ∧ IsLs h0 p (val i) m) (S : Addr) (hSf : S ∉ fp) (hold : ∀ c o, h0.get? c = some o → c ∉ wr ∧ c ≠ S) (hSge : h0.objs.size ≤ S) (hwr : ∀ c ∈ wr, c < S)
    (hz : (accL val bs n).length ≤ sizeLine) (hmono : ∀ i, i ≤ n → (accL val bs i).length ≤ (accL val bs n).length) :
    ∀ (k i : Nat) (s : Shared) (t : Addr) (c m : Nat) (stage : Int), n - i = k → i ≤ n → St i s.heap → s.heap.get? S = some { cls := .type "list", dict := none, data := .seq #[.ref t] c, slots := #[] } → IsLs s.heap t (accL val bs i) m → t ∉ wr → t ≠ S →
    (∀ c o, h0.get? c = some o → s.heap.get? c = some o) → ((i = 0 ∧ t = b) ∨ (0 < i ∧ h0.objs.size ≤ t)) → stage = 2 →
    (∀ h' tk t' m', (∀ c o, h0.get? c = some o → h'.get? c = some o) → IsLs h' t' (accL val bs n) m' → ((n = 0 ∧ t' = b) ∨ (0 < n ∧ h0.objs.size ≤ t')) → R (.ok (.ret (.ref t'))) { s with heap := h', toks := tk }) →
    codeAny (model prog w) A (.builtin "sum.loop" ⟨[.ref I, .ref S, rawInt stage, rawInt 0], []⟩) R s := by
  have hSw : S ∉ wr := fun h => hSf (W.sub _ h)
  intro k
  induction k with
  | zero =>
    intro i s t c m stage hk hi hst hS ht htw htS keep hor hstage hR
    have hin : i = n := by omega
    subst hin
    subst hstage
    refine codeAny_builtin F.entry_sum_loop ?_
    rw [Around.under_plainId F.plain_sum_loop _]
    show wpAny _ A.in1 (seqItems? (.ref S) >>= _) _ _ s
    refine wpAny_bind (wpAny_seqItems hS rfl ?_)
    show wpAny _ A.in1 (tryCatch (pyNext (.ref I)) _ >>= _) _ _ s
    refine wpAny_bind (wpAny_tryCatch (W.done s _ _ hst fun h' tk hk' => ?_))
    exact wpAny_pure (hR h' tk t m (fun c o e => hk' c o (hold c o e).1 (keep c o e)) (hk' t _ htw ht) hor)
  | succ k ih =>
    intro i s t c m stage hk hi hst hS ht htw htS keep hor hstage hR
    subst hstage
    have hlt : i < n := by omega
    refine codeAny_builtin F.entry_sum_loop ?_
    rw [Around.under_plainId F.plain_sum_loop _]
    show wpAny _ A.in1 (seqItems? (.ref S) >>= _) _ _ s
    refine wpAny_bind (wpAny_seqItems hS rfl ?_)
    show wpAny _ A.in1 (tryCatch (pyNext (.ref I)) _ >>= _) _ _ s
    refine wpAny_bind (wpAny_tryCatch (W.item i s _ _ hlt hst fun v h' tk hP hst' hk' => ?_))
    obtain ⟨p, mp, rfl, hp⟩ := hval i v hP
    have hS' := hk' S _ hSw hS
    have ht' := hk' t _ htw ht
    have hp' := hk' p _ (hold p _ hp).1 (keep p _ hp)
    have keep' : ∀ c o, h0.get? c = some o → h'.get? c = some o := fun c o e => hk' c o (hold c o e).1 (keep c o e)
    have hq : S < h'.objs.size := Heap.lt_size hS'
    have ea : (accL val bs i).toArray ++ (val i).toArray = (accL val bs (i + 1)).toArray := by simp [accL]
    have hlen : (accL val bs i).toArray.size + (val i).toArray.size ≤ sizeLine := by
      have h1 := hmono (i + 1) hlt
      have h2 : (accL val bs (i + 1)).length = (accL val bs i).length + (val i).length := by simp [accL]
      simp only [List.size_toArray]
      omega
    show wpAny _ A.in1 ((holding [Value.ref p] (binaryOp .Add (.ref t) (.ref p))).attempt >>= _) _ _ _
    refine wpAny_bind (wpAny_attempt (wpAny_holding (PySem.P.add_list (s := { s with heap := h', toks := tk }) ht' hp' ?_ hlen)))
    rw [ea]
    have hS2 : (h'.push { cls := .type "list", data := .seq (accL val bs (i + 1)).toArray }).get? S = _ := Heap.get?_push_of_some _ hS'
    show wpAny _ A.in1 (updateSeq S (fun _ => #[.ref h'.objs.size]) >>= _) _ _ _
    refine wpAny_bind ?_
    refine wpAny_updateSeq hS2 rfl ?_
    have hS3 := Heap.get?_update_self (Obj.mapSeq fun _ => #[Value.ref h'.objs.size]) hS2 rfl
    refine wpAny_bind (wpAny_letGo ?_)
    refine wpAny_bind ?_
    have up : ∀ (b : Addr) (o : Obj), b ≠ S → h'.get? b = some o → (((h'.push { cls := .type "list", data := .seq (accL val bs (i + 1)).toArray }).update S (Obj.mapSeq fun _ => #[Value.ref h'.objs.size])).update S (Obj.mapSeq fun _ => #[Value.ref h'.objs.size])).get? b = some o := fun b o hb e =>
      (Heap.get?_update_other _ _ (Ne.symm hb)).trans ((Heap.get?_update_other _ _ (Ne.symm hb)).trans (Heap.get?_push_of_some _ e))
    refine wpAny_updateSeq hS3 rfl (wpAny_pure ⟨plainId_quiet F.plain_sum_loop _, ih (i + 1) _ h'.objs.size _ 0 2 (by omega) hlt (W.frame _ _ _ hst' fun b hb o e => up b o (fun h : b = S => hSf (by rw [← h]; exact hb)) e) (Heap.get?_update_self _ hS3 rfl) ?_ (fun z => Nat.lt_irrefl _ (Nat.lt_trans hq (hwr _ z))) (Nat.ne_of_gt hq) (fun c o e => up c o (hold c o e).2 (keep' c o e)) (.inr ⟨Nat.succ_pos _, Nat.le_trans hSge (Nat.le_of_lt hq)⟩) rfl fun h'' tk'' t'' m'' a1 a2 a3 => ?_⟩)
    · exact (Heap.get?_update_other _ _ (Nat.ne_of_lt hq)).trans ((Heap.get?_update_other _ _ (Nat.ne_of_lt hq)).trans (Heap.get?_push_size _ rfl))
    · exact hR h'' tk'' t'' m'' a1 a2 a3
end
theorem args_sum2 (a b : Value) : argsOk "sum" ⟨[a, b], []⟩ := by unfold argsOk; kernel_rfl
theorem sub_list_str' : isSubtype (.type "list") (.type "str") = pure false := by rw [isSubtype_type]; kernel_rfl
theorem sub_list_bytes' : isSubtype (.type "list") (.type "bytes") = pure false := by rw [isSubtype_type]; kernel_rfl
theorem sub_list_bytearray' : isSubtype (.type "list") (.type "bytearray") = pure false := by rw [isSubtype_type]; kernel_rfl
theorem isLs_list {h : Heap} {a : Addr} {xs : List Value} {n : Nat} (e : IsLs h a xs n) : h.IsList a xs.toArray := ⟨_, e, rfl, n, rfl⟩
theorem accL_mono (val : Nat → List Value) (b : List Value) (i : Nat) : ∀ k, (accL val b i).length ≤ (accL val b (i + k)).length
  | 0 => Nat.le_refl _
  | k + 1 => by
    have := accL_mono val b i k
    have e : (accL val b (i + (k + 1))).length = (accL val b (i + k)).length + (val (i + k)).length := by
      show (accL val b (i + k) ++ val (i + k)).length = _
      rw [List.length_append]
    omega
theorem sumL_raw {prog : Program} {w : World} {A : Around} {E : Value → Shared → Prop} {s : Shared} {l b : Addr} {its bs : List Value} {m nb : Nat} {Q : Value → Shared → Prop} (val : Nat → List Value) (hh : A.handled = none) (hl : IsLs s.heap l its m) (hb : IsLs s.heap b bs nb)
    (hval : ∀ i v, its[i]? = some v → ∃ p m, v = .ref p ∧ IsLs s.heap p (val i) m) (hz : (accL val bs its.length).length ≤ sizeLine)
    (h : ∀ h' tk t' m', (∀ c o, s.heap.get? c = some o → h'.get? c = some o) → IsLs h' t' (accL val bs its.length) m' → ((its.length = 0 ∧ t' = b) ∨ (0 < its.length ∧ s.heap.objs.size ≤ t')) → Q (.ref t') { s with heap := h', toks := tk }) :
    wpAny (model prog w) A (call (.builtin "sum") [.ref l, .ref b]) Q E s := by
  refine call_function_tree F.kind_sum F.plain_sum F.entry_sum (args_sum2 _ _) ?_
  unfold Builtin.«sum»
  simp only [List.length_cons, List.length_nil]
  rw [if_neg (by decide)]
  refine wpAny_bind (wpAny_of_eq (show Builtin.Builtins.bindParams "sum" ["start"] 0 ⟨[.ref b], []⟩ = pure [some (.ref b)] from rfl) ?_)
  have hlt : l < s.heap.objs.size := Heap.lt_size hl
  refine wpAny_bind (wpAny_pyIter_list (isLs_list hl) ?_)
  refine wpAny_bind (wpAny_pure ?_)
  simp only [List.forIn_cons, List.forIn_nil]
  have hty : ∀ s' : Shared, s'.heap = s.heap.push { cls := .type "list_iterator", data := .fields #[.ref l, .int 0 0] } → s'.TypeIs (.ref b) "list" := fun s' e => Heap.IsList.typeIs (isLs_list (n := nb) (xs := bs) (by rw [IsLs, e]; exact Heap.get?_push_of_some _ hb))
  refine wpAny_bind (wpAny_bind (wpAny_bind (wpAny_isInstance (T := "list") (b := false) (hty _ rfl) sub_list_str' ?_)))
  simp only [Bool.false_eq_true, if_false]
  refine wpAny_pure (wpAny_bind (wpAny_bind (wpAny_isInstance (T := "list") (b := false) (hty _ rfl) sub_list_bytes' ?_)))
  simp only [Bool.false_eq_true, if_false]
  refine wpAny_pure (wpAny_bind (wpAny_bind (wpAny_isInstance (T := "list") (b := false) (hty _ rfl) sub_list_bytearray' ?_)))
  simp only [Bool.false_eq_true, if_false]
  refine wpAny_pure (wpAny_pure ?_)
  refine wpAny_bind (wpAny_newObj_type ?_)
  have hI : l ≠ s.heap.objs.size := Nat.ne_of_lt hlt
  have hsz1 : (s.heap.push { cls := .type "list_iterator", data := .fields #[.ref l, .int 0 0] }).objs.size = s.heap.objs.size + 1 := Heap.size_push ..
  have hst : ((s.heap.push { cls := .type "list_iterator", data := .fields #[.ref l, .int 0 0] }).IsListIter s.heap.objs.size l 0 ∧ (s.heap.push { cls := .type "list_iterator", data := .fields #[.ref l, .int 0 0] }).IsList l its.toArray) := ⟨⟨_, Heap.get?_push_size _ rfl, rfl, rfl⟩, (isLs_list hl).push _⟩
  have W := Walks.list (prog := prog) (w := w) (A := A.in1) hh s.heap.objs.size l hI its.toArray
  refine wpAny_pure ⟨plainId_quiet F.plain_sum_loop _, sumL_loop (n := its.toArray.size) W s.heap val b bs (fun i v hv => hval i v (by simpa using hv)) (s.heap.push { cls := .type "list_iterator", data := .fields #[.ref l, .int 0 0] }).objs.size (fun z => ?_) (fun c o e => ⟨fun z => ?_, ?_⟩) ?_ (fun c z => ?_) (by rw [List.size_toArray]; exact hz) (fun i hi => ?_)
    its.toArray.size 0 _ b _ nb 2 rfl (Nat.zero_le _) (W.frame _ _ _ hst fun c _ o e => Heap.get?_push_of_some _ e) (Heap.get?_push_size _ rfl) (Heap.get?_push_of_some _ (Heap.get?_push_of_some _ hb)) (fun z => ?_) ?_ (fun c o e => Heap.get?_push_of_some _ (Heap.get?_push_of_some _ e)) (.inl ⟨rfl, rfl⟩) rfl fun h' tk t' m' a1 a2 a3 => ?_⟩
  · rw [hsz1] at z
    have : s.heap.objs.size + 1 = s.heap.objs.size ∨ s.heap.objs.size + 1 = l := by simpa using z
    rcases this with z | z
    · exact absurd z (Nat.succ_ne_self _)
    · exact absurd z (Nat.ne_of_gt (Nat.lt_succ_of_lt hlt))
  · have z : c = s.heap.objs.size := by simpa using z
    exact absurd z (Nat.ne_of_lt (Heap.lt_size e))
  · rw [hsz1]; exact Nat.ne_of_lt (Nat.lt_succ_of_lt (Heap.lt_size e))
  · rw [hsz1]; exact Nat.le_succ _
  · have z : c = s.heap.objs.size := by simpa using z
    rw [hsz1, z]; exact Nat.lt_succ_self _
  · obtain ⟨k, hk⟩ : ∃ k, its.toArray.size = i + k := ⟨its.toArray.size - i, by omega⟩
    rw [hk]; exact accL_mono val bs i k
  · have z : b = s.heap.objs.size := by simpa using z
    exact absurd z (Nat.ne_of_lt (Heap.lt_size hb))
  · rw [hsz1]; exact Nat.ne_of_lt (Nat.lt_succ_of_lt (Heap.lt_size hb))
  · have e : its.toArray.size = its.length := by simp
    rw [e] at a2 a3
    exact h h' tk t' m' a1 a2 a3
def seqAt (h : Heap) (v : Option Value) : List Value := match v with
  | some (.ref p) => match h.get? p with
    | some ⟨_, _, .seq a _, _⟩ => a.toList
    | _ => []
  | _ => []
def cSumLL : FD := fun ds Q => match ds with
  | [.lst xs, .lst init] => ∃ xss : List (List D), xs = xss.map .lst ∧ (init ++ xss.flatten).length ≤ sizeLine ∧ Q (.lst (init ++ xss.flatten))
  | _ => False
theorem lists_walk {X : Cx} {B : Bx} {pins : List (Addr × Obj)} {σ : L2.St} {H G : Hp} {s : Shared} (I : Inv X pins σ H s) (j : Jn X.K B G H) : ∀ {xss : List (List D)} {vs : List V} {its : List Value}, Dats X.K B G vs (xss.map D.lst) → Vals vs its →
    (∀ (i : Nat) (v : Value), its[i]? = some v → ∃ (p : Addr) (m : Nat), v = Value.ref p ∧ IsLs s.heap p (seqAt s.heap (its[i]?)) m) ∧ ∃ wss : List (List V), Paired (fun (ws : List V) (v : Value) => Vals ws (seqAt s.heap (some v))) wss its ∧ Dats X.K B G wss.flatten xss.flatten
  | [], _, _, .nil, .nil => ⟨fun i v h => by simp at h, [], .nil, .nil⟩
  | xs :: xss, _, _, .cons h t, .cons r rs => by
    cases h with
    | @lst a ws ds hg hd =>
      obtain ⟨z, li, n, rv, e, ho⟩ := I.lstM (j.ex _ _ hg)
      obtain ⟨ih1, wss, ih2, ih3⟩ := lists_walk I j t rs
      cases r
      have es : seqAt s.heap (some (.ref a)) = li := by
        unfold seqAt
        simp only [ho]
      refine ⟨fun i v hv => ?_, ws :: wss, .cons (by rw [es]; exact rv) ih2, ?_⟩
      · cases i with
        | zero =>
          simp only [List.getElem?_cons_zero, Option.some.injEq] at hv
          subst hv
          exact ⟨a, n, rfl, by rw [List.getElem?_cons_zero, es]; exact ho⟩
        | succ i =>
          simp only [List.getElem?_cons_succ] at hv ⊢
          exact ih1 i v hv
      · rw [List.flatten_cons, List.flatten_cons]
        exact hd.append ih3
theorem vals_acc {h : Heap} {bs : List Value} {vb : List V} (hb : Vals vb bs) : ∀ {wss : List (List V)} {its : List Value}, Paired (fun (ws : List V) (v : Value) => Vals ws (seqAt h (some v))) wss its → ∀ (pre : List Value) (wp : List V), Vals wp (accL (fun i => seqAt h ((pre ++ its)[i]?)) bs pre.length) →
    Vals (wp ++ wss.flatten) (accL (fun i => seqAt h ((pre ++ its)[i]?)) bs (pre ++ its).length)
  | _, _, .nil, pre, wp, hw => by
    simp only [List.flatten_nil, List.append_nil] at hw ⊢
    exact hw
  | _, _, .cons (l₁ := wss) (l₂ := its) (a := ws) (b := v) h1 h2, pre, wp, hw => by
    have e : pre ++ v :: its = (pre ++ [v]) ++ its := by simp
    rw [List.flatten_cons, ← List.append_assoc, e]
    refine vals_acc hb h2 (pre ++ [v]) (wp ++ ws) ?_
    rw [e] at hw
    have el : (pre ++ [v]).length = pre.length + 1 := by simp
    rw [el]
    show Vals (wp ++ ws) (accL _ bs pre.length ++ seqAt h (((pre ++ [v]) ++ its)[pre.length]?))
    have e2 : ((pre ++ [v]) ++ its)[pre.length]? = some v := by
      rw [← e, List.getElem?_append_right (Nat.le_refl _), Nat.sub_self]
      rfl
    rw [e2]
    exact hw.append h1
theorem call_sumLL_d {X : Cx} {B : Bx} (hc : X.calm = true) : CallR X (.builtin "sum") (cLift X.K B cSumLL) := by
  intro pins s σ H vs us P I rv q
  obtain ⟨G, ds, Q, j, hd, hq, k⟩ := q
  match ds, hd, hq with
  | [.lst xs, .lst init], .cons (.lst (a := l) (xs := v1) hp t1) (.cons (.lst (a := b) (xs := v2) hb t2) .nil), hq =>
    obtain ⟨xss, rfl, hz, hq⟩ := hq
    cases rv with
    | cons r1 rv =>
      cases rv with
      | cons r2 rv =>
        cases rv
        cases r1
        cases r2
        obtain ⟨z1, its, n1, rv1, e1, o1⟩ := I.lstM (j.ex _ _ hp)
        obtain ⟨z2, bs, n2, rv2, e2, o2⟩ := I.lstM (j.ex _ _ hb)
        obtain ⟨w1, wss, w2, w3⟩ := lists_walk I j t1 rv1
        have va := vals_acc (h := s.heap) rv2 w2 [] v2 rv2
        rw [List.nil_append] at va
        have hl : (accL (fun i => seqAt s.heap (its[i]?)) bs its.length).length ≤ sizeLine := by
          rw [← va.length, (t2.append w3).len]
          exact hz
        refine sumL_raw (fun i => seqAt s.heap (its[i]?)) (I.ok.hd hc) o1 o2 w1 hl fun h' tk t' m' a1 a2 a3 => ?_
        rcases a3 with ⟨z, rfl⟩ | ⟨z, hge⟩
        · have : its = [] := List.eq_nil_of_length_eq_zero z
          subst this
          cases w2
          have ex : xss.flatten = [] := List.eq_nil_of_length_eq_zero w3.len.symm
          rw [ex, List.append_nil] at hq
          exact ⟨.ref t', H, I.kept a1, rfl, k _ _ G H hq (Gr.refl j) (.lst hb t2)⟩
        · have hn : H t' = none := I.hok.fresh hge
          refine ⟨.ref t', _, I.laid (o := .lst (v2 ++ wss.flatten)) a1 hge ⟨by rw [(t2.append w3).len]; exact hz, _, m', va, a2⟩, rfl, ?_⟩
          exact k _ _ (upd G t' _) _ hq (Gr.new j hn) (.lst upd_same ((t2.append w3).mono (Ex.new (fresh_back j.ex hn))))
  | [], .nil, hq => exact hq.elim
end DL
namespace DL
open PySem PySem.Spec PyProof.Rows L2 Evl
section
variable {X : Cx} {B : Bx} {e o : Expr} {r : DE} {pos : Pos}
/-! xs.append(e), xs one's own -/
def dApp (i : Nat) (r : DE) : DTS := fun W δ => match δ[i]? with
  | some (some (.ow v (.lst xs))) => r δ fun d => xs.length < sizeLine ∧ W.nx (δ.set i (some (.ow v (.lst (xs ++ [.sh d])))))
  | _ => False
theorem psd_app {i : Nat} {apos cpos : Pos} (ho : PE X o (tVar i)) (he : PD X B e r)
    (hbase : attributeBase o "append" X.env (eval o X.env) = eval o X.env := by rfl)
    (hfew : ((backTo cpos (starEach [e] X.env)).all (fun x => !x.1) && (backToKw cpos (keywordEach [] X.env)).all (fun x => x.1.isSome) && decide ([e].length + ([] : List Keyword).length + (if ([] : List Keyword).isEmpty then 0 else 1) < 30)) = true := by rfl)
    (hline : (apos.endLine == cpos.line) = true := by rfl) (hs : starEach [e] X.env = (false, eval e X.env) :: starEach [] X.env := by rfl) (hplain : (backTo cpos (starEach [] X.env)).any (·.1) = false := by rfl)
    (hsw : swapsWith (.Call (.Attribute o "append" apos) [e] [] cpos) none pos.line X.env = pure false := by rfl) :
    PSD X B (.Expr (.Call (.Attribute o "append" apos) [e] [] cpos) pos) (dApp i r) := ps_mono (ps_expr (pe_bm PySem.F.plainAttrs_list PySem.F.slot_list_append PySem.F.type_list_append mt_append ho (pa_cons he pa_nil hs) hbase hfew hline hs hplain) hsw) fun E σ H q => by
  obtain ⟨G0, H0, G, δ, W, g0, st, h, k⟩ := q
  unfold dApp at h
  cases h1 : δ[i]? with
  | none => rw [h1] at h; exact h.elim
  | some o' =>
    cases o' with
    | none => rw [h1] at h; exact h.elim
    | some z =>
      cases z with
      | sh d => rw [h1] at h; exact h.elim
      | nw _ _ _ => rw [h1] at h; exact h.elim
      | ow v0 o =>
        cases o with
        | sh _ => rw [h1] at h; exact h.elim
        | dic _ _ => rw [h1] at h; exact h.elim
        | lst xs =>
          rw [h1] at h
          obtain ⟨F, y⟩ := st.ex
          obtain ⟨a1, a2, nd, hh⟩ := y.ow h1
          generalize hF : F i = fi at a2
          cases a2 with
          | @lst p vs _ f c1 c2 c3 =>
            have nd2 : (p :: f).Nodup := hF ▸ nd
            refine ⟨.ref p, a1, .inl ⟨rfl, vs, sq_of c1⟩, H0, G, δ, _, g0.j, st, h, fun d v G2 H2 q2 g2 d2 => ?_⟩
            have y2 := y.gr g2
            obtain ⟨b1, b2, _, _⟩ := y2.ow h1
            rw [hF] at b2
            cases b2 with
            | @lst _ vs' _ _ e1 e2 e3 =>
              refine ⟨p, vs', v, rfl, rfl, e1, by rw [e3.len]; exact q2.1, ?_⟩
              have hp := hh p (by rw [hF]; exact List.mem_cons_self)
              refine k.nx _ _ _ _ q2.2 ((g0.trans g2).own hp.1 e2 hp.2) g2.ex (StF.top y2 a1 hF nd hh (f' := p :: f) (.lst upd_same e2 ?_) nd2 (by rw [hF]; exact fun q hq => hq))
              have c4 := (e3.past (ho := .lst (vs' ++ [v])) (List.nodup_cons.mp nd2).1).append (Owns.cons (H := upd H2 p (.lst (vs' ++ [v]))) (.sh d2) .nil)
              rw [List.append_nil, List.append_nil] at c4
              exact c4
end
theorem st_asg2 {δ : DS} {P1 P2 : D → Prop} {r1 r2 : DE} {W : DEnds} {u : DTS} {i j : Nat} (h1 : EvD r1 δ P1) (h2 : EvD r2 δ P2) (k : ∀ x y, P1 x → P2 y → u W ((δ.set i (some (.sh x))).set j (some (.sh y)))) : dSeq (dAsg (dTup (dCons r1 (dCons r2 dNil))) (gT 2 (gsCons (gN i) (gsCons (gN j) gsNil)))) u W δ := h1 _ fun x px => h2 _ fun y py => k x y px py
theorem lc_fof {α : Type} {i : Nat} {tt : DT} {te : DE} {δ : DS} {Q : List D → Prop} (g h : α → D) (p : α → Bool) : ∀ (xs : List α) (acc : List D), (∀ x ∈ xs, ∀ R : Bool → Prop, R (p x) → tt (δ.set i (some (.sh (g x)))) R) → (∀ x ∈ xs, p x = true → ∀ R : D → Prop, R (h x) → te (δ.set i (some (.sh (g x)))) R) →
    Q (acc ++ (xs.filter p).map h) → lcD (gN i) tt te δ Q (xs.map g) acc
  | [], acc, _, _, q => by
    rw [List.filter_nil, List.map_nil, List.append_nil] at q
    exact q
  | x :: xs, acc, h1, h2, q => by
    show tt (δ.set i (some (.sh (g x)))) fun b => if b = true then te (δ.set i (some (.sh (g x)))) fun y => lcD (gN i) tt te δ Q (xs.map g) (acc ++ [y]) else lcD (gN i) tt te δ Q (xs.map g) acc
    refine h1 x List.mem_cons_self _ ?_
    cases hp : p x with
    | true =>
      rw [if_pos rfl]
      refine h2 x List.mem_cons_self hp _ (lc_fof g h p xs _ (fun z hz => h1 z (List.mem_cons_of_mem _ hz)) (fun z hz => h2 z (List.mem_cons_of_mem _ hz)) ?_)
      rw [List.filter_cons, if_pos hp] at q
      rw [List.append_assoc]
      exact q
    | false =>
      rw [if_neg Bool.false_ne_true]
      refine lc_fof g h p xs _ (fun z hz => h1 z (List.mem_cons_of_mem _ hz)) (fun z hz => h2 z (List.mem_cons_of_mem _ hz)) ?_
      rw [List.filter_cons, if_neg (by rw [hp]; exact Bool.false_ne_true)] at q
      exact q
end DL
namespace DL
open PySem PySem.Spec PyProof.Rows L2 Evl
/-! readings, one constructor at a time: nothing is opened before it is known -/
def iteS (b : Bool) (t u : DTS) (W : DEnds) (δ : DS) : Prop := if b = true then t W δ else u W δ
def iteE (b : Bool) (r u : DE) (δ : DS) (Q : D → Prop) : Prop := if b = true then r δ Q else u δ Q
def anE (x : D) (r : DE) (δ : DS) (Q : D → Prop) : Prop := match x with
  | .bl c => if c = true then r δ Q else Q (.bl false)
  | _ => False
def orE (x : D) (r : DE) (δ : DS) (Q : D → Prop) : Prop := match x with
  | .bl c => if c = true then Q (.bl true) else r δ Q
  | _ => False
def anT (b : Bool) (u : DT) (δ : DS) (Q : Bool → Prop) : Prop := if b = true then u δ Q else Q false
def orT (b : Bool) (u : DT) (δ : DS) (Q : Bool → Prop) : Prop := if b = true then Q true else u δ Q
def notB (b : Bool) (Q : Bool → Prop) : Prop := Q (!b)
def blD (x : D) (Q : Bool → Prop) : Prop := match x with
  | .bl b => Q b
  | _ => False
def seqD (d : D) (Q : List D → Prop) : Prop := match d with
  | .lst xs => Q xs
  | .tup xs => Q xs
  | .str x => Q (chars x)
  | _ => False
def starD (x : D) (K : List D → Prop) : Prop := match x with
  | .tup xs => K xs
  | .lst xs => K xs
  | _ => False
def szD (n : Nat) (P : Prop) : Prop := match decide (n ≤ 1000) with
  | true => P
  | false => False
def tupD (d : D) (n : Nat) (K : List D → Prop) : Prop := match d with
  | .tup ds => match decide (ds.length = n) with
    | true => K ds
    | false => False
  | _ => False
def lstD (d : D) (n : Nat) (K : List D → Prop) : Prop := match d with
  | .lst ds => match decide (ds.length = n) with
    | true => K ds
    | false => False
  | _ => False
def atD (o : Option D) (Q : D → Prop) : Prop := match o with
  | some d => Q d
  | none => False
def atC (o : Option Nat) (Q : D → Prop) : Prop := match o with
  | some c => Q (.str ⟨#[c]⟩)
  | none => False
def slotD (o : Option (Option SD)) (Q : D → Prop) : Prop := match o with
  | some (some (.sh d)) => Q d
  | _ => False
def ownD (o : Option (Option SD)) (K : V → List OD → Prop) : Prop := match o with
  | some (some (.ow v (.lst xs))) => K v xs
  | _ => False
def ownO (o : Option (Option SD)) (K : V → OD → Prop) : Prop := match o with
  | some (some (.ow v x)) => K v x
  | _ => False
def intO (x : D) (Q : Option Int → Prop) : Prop := match x with
  | .int i => Q (some i)
  | _ => False
def headL (ds : List D) (K : D → List D → Prop) : Prop := match ds with
  | d :: ds => K d ds
  | [] => False
def nilL (ds : List D) (P : Prop) : Prop := match ds with
  | [] => P
  | _ => False
section
variable {δ : DS} {Q : D → Prop} {QL : List D → Prop} {QB : Bool → Prop} {QO : Option Int → Prop} {QS : DS → Prop} {W : DEnds} {r ra rb : DE} {rA : DA} {tc t u : DT} {ts us : DTS} {a b : Int} {x y : Str} {xs ys ds : List D} {p q : Bool} {n : Bool} {lo hi : Option Int} {rlo rhi : DO} {d : D} {i j k : Nat} {o2 : O2} {o1 : O1} {S : FD} {g : DG} {gs : DGs} {P : Prop} {K : List D → Prop} {vs : List Nat}
theorem z_var0 : dVar 0 (some (.sh d) :: δ) Q = Q d := propext Iff.rfl
theorem z_varS {o : Option SD} : dVar (i + 1) (o :: δ) Q = dVar i δ Q := propext Iff.rfl
theorem z_slot : slotD (some (some (.sh d))) Q = Q d := propext Iff.rfl
theorem z_own {K : V → List OD → Prop} {v : V} {xs : List OD} : ownD (some (some (.ow v (.lst xs)))) K = K v xs := propext Iff.rfl
theorem z_c : dC d δ Q = Q d := propext Iff.rfl
theorem z_nil : dNil δ QL = QL [] := propext Iff.rfl
theorem z_cons : dCons r rA δ QL = r δ fun x => rA δ fun xs => QL (x :: xs) := propext Iff.rfl
theorem z_tup : dTup rA δ Q = rA δ fun ds => szD ds.length (Q (.tup ds)) := propext Iff.rfl
theorem z_lst : fLst rA δ QL = rA δ fun ds => szD ds.length (QL ds) := propext Iff.rfl
theorem z_sz {n : Nat} (h : n ≤ 1000) : szD n P = P := by unfold szD; rw [decide_eq_true h]
theorem z_f : dF rA δ Q = rA δ fun ds => Q (.lst ds) := propext Iff.rfl
theorem z_op : dOp o2 ra rb δ Q = ra δ fun x => rb δ fun y => o2 x y Q := propext Iff.rfl
theorem z_un : dUn o1 ra δ Q = ra δ fun x => o1 x Q := propext Iff.rfl
theorem z_tBl : tBl r δ QB = r δ fun x => blD x QB := propext Iff.rfl
theorem z_bl : blD (.bl p) QB = QB p := propext Iff.rfl
theorem z_tNt : tNt t δ QB = t δ fun b => notB b QB := propext Iff.rfl
theorem z_notT : notB true QB = QB false := propext Iff.rfl
theorem z_notF : notB false QB = QB true := propext Iff.rfl
theorem notB_pos {c : Prop} [Decidable c] (h : c) : notB (decide c) QB = QB false := by rw [decide_eq_true h]; rfl
theorem notB_neg {c : Prop} [Decidable c] (h : ¬ c) : notB (decide c) QB = QB true := by rw [decide_eq_false h]; rfl
theorem z_dNt : dNt ra δ Q = ra δ fun x => blD x fun c => notB c fun c => Q (.bl c) := propext Iff.rfl
theorem z_call : dCall S rA δ Q = rA δ fun ds => S ds Q := propext Iff.rfl
theorem z_next : dNext W δ = W.nx δ := propext Iff.rfl
theorem z_seqS : dSeq ts us W δ = ts { W with nx := us W } δ := propext Iff.rfl
theorem z_ret : dRet r W δ = r δ W.rt := propext Iff.rfl
theorem z_retN : dRetN W δ = W.rt .non := propext Iff.rfl
theorem z_drop : dDrop r W δ = r δ fun _ => W.nx δ := propext Iff.rfl
theorem z_brk : dBrk W δ = W.bk δ := propext Iff.rfl
theorem z_cnt : dCnt W δ = W.ct δ := propext Iff.rfl
theorem z_gN : gN i d δ QS = QS (δ.set i (some (.sh d))) := propext Iff.rfl
theorem z_gsNil : gsNil ds δ QS = nilL ds (QS δ) := propext Iff.rfl
theorem z_gsCons : gsCons g gs ds δ QS = headL ds fun d ds => g d δ fun δ' => gs ds δ' QS := by unfold gsCons headL; rfl
theorem z_headL {K : D → List D → Prop} : headL (d :: ds) K = K d ds := propext Iff.rfl
theorem z_nilL : nilL [] P = P := propext Iff.rfl
theorem z_gT : gT k gs d δ QS = tupD d k fun ds => gs ds δ QS := propext Iff.rfl
theorem z_gL : gL k gs d δ QS = lstD d k fun ds => gs ds δ QS := propext Iff.rfl
theorem z_tupD (h : ds.length = k) : tupD (.tup ds) k K = K ds := by unfold tupD; simp only [h, decide_true]
theorem z_lstD (h : ds.length = k) : lstD (.lst ds) k K = K ds := by unfold lstD; simp only [h, decide_true]
theorem z_asg : dAsg r g W δ = r δ fun d => g d δ W.nx := propext Iff.rfl
theorem z_set : dSet i r W δ = r δ fun d => W.nx (δ.set i (some (.sh d))) := propext Iff.rfl
theorem z_setO : dSetO i rA W δ = rA δ fun ds => ∀ v, W.nx (δ.set i (some (.ow v (.lst (ds.map .sh))))) := propext Iff.rfl
theorem z_own0 {K : V → List OD → Prop} {v : V} {xs : List OD} : ownD (some (.ow v (.lst xs)) :: δ)[0]? K = K v xs := propext Iff.rfl
theorem z_ownO0 {K : V → OD → Prop} {v : V} {x : OD} : ownO (some (.ow v x) :: δ)[0]? K = K v x := propext Iff.rfl
theorem z_ownOS {K : V → OD → Prop} {o : Option SD} : ownO (o :: δ)[i + 1]? K = ownO δ[i]? K := by rw [List.getElem?_cons_succ]
theorem z_ownS {K : V → List OD → Prop} {o : Option SD} : ownD (o :: δ)[i + 1]? K = ownD δ[i]? K := by rw [List.getElem?_cons_succ]
theorem z_slot0 : slotD (some (.sh d) :: δ)[0]? Q = Q d := propext Iff.rfl
theorem z_slotS {o : Option SD} : slotD (o :: δ)[i + 1]? Q = slotD δ[i]? Q := by rw [List.getElem?_cons_succ]
theorem z_ext : dExt i rA W δ = ownD δ[i]? fun v xs => rA δ fun ys => xs.length + ys.length ≤ sizeLine ∧ W.nx (δ.set i (some (.ow v (.lst (xs ++ ys.map .sh))))) := propext Iff.rfl
theorem z_app : dApp i r W δ = ownD δ[i]? fun v xs => r δ fun d => xs.length < sizeLine ∧ W.nx (δ.set i (some (.ow v (.lst (xs ++ [.sh d]))))) := propext Iff.rfl
theorem z_frz : dFrz i ts W δ = ownO δ[i]? fun _ x => ts W (δ.set i (some (.sh x.toD))) := propext Iff.rfl
theorem z_aug : dAug o2 i r W δ = slotD δ[i]? fun d => r δ fun y => o2 d y fun z => W.nx (δ.set i (some (.sh z))) := propext Iff.rfl
theorem z_for : dFor rA g ts W δ = rA δ fun ds => forD g ts W ds δ := propext Iff.rfl
theorem z_lc {te : DE} {tt : DT} : fLc rA g tt te vs δ QL = rA δ fun ds => ds.length ≤ sizeLine ∧ lcD g tt te (wipeD δ vs) QL ds [] := propext Iff.rfl
theorem z_yes : dYes δ QB = QB true := propext Iff.rfl
theorem z_sl : dSl r rlo rhi δ Q = r δ fun x => rlo δ fun l => rhi δ fun h => oSl x l h Q := propext Iff.rfl
theorem z_noP : noP δ QO = QO none := propext Iff.rfl
theorem z_aP : aP r δ QO = r δ fun x => intO x QO := propext Iff.rfl
theorem z_intO : intO (.int a) QO = QO (some a) := propext Iff.rfl
theorem z_ifS : dIfS tc ts us W δ = tc δ fun b => iteS b ts us W δ := propext Iff.rfl
theorem iteS_t : iteS true ts us W δ = ts W δ := propext Iff.rfl
theorem iteS_f : iteS false ts us W δ = us W δ := propext Iff.rfl
theorem iteS_pos {c : Prop} [Decidable c] (h : c) : iteS (decide c) ts us W δ = ts W δ := by rw [decide_eq_true h]; rfl
theorem iteS_neg {c : Prop} [Decidable c] (h : ¬ c) : iteS (decide c) ts us W δ = us W δ := by rw [decide_eq_false h]; rfl
theorem z_ifE : dIfE tc ra rb δ Q = tc δ fun b => iteE b ra rb δ Q := propext Iff.rfl
theorem iteE_t : iteE true ra rb δ Q = ra δ Q := propext Iff.rfl
theorem iteE_f : iteE false ra rb δ Q = rb δ Q := propext Iff.rfl
theorem iteE_pos {c : Prop} [Decidable c] (h : c) : iteE (decide c) ra rb δ Q = ra δ Q := by rw [decide_eq_true h]; rfl
theorem iteE_neg {c : Prop} [Decidable c] (h : ¬ c) : iteE (decide c) ra rb δ Q = rb δ Q := by rw [decide_eq_false h]; rfl
theorem z_an : dAn ra rb δ Q = ra δ fun x => anE x rb δ Q := propext Iff.rfl
theorem z_or : dOr ra rb δ Q = ra δ fun x => orE x rb δ Q := propext Iff.rfl
theorem anE_t : anE (.bl true) r δ Q = r δ Q := propext Iff.rfl
theorem anE_f : anE (.bl false) r δ Q = Q (.bl false) := propext Iff.rfl
theorem orE_t : orE (.bl true) r δ Q = Q (.bl true) := propext Iff.rfl
theorem orE_f : orE (.bl false) r δ Q = r δ Q := propext Iff.rfl
theorem z_tan : tAn t u δ QB = t δ fun b => anT b u δ QB := propext Iff.rfl
theorem z_tor : tOrr t u δ QB = t δ fun b => orT b u δ QB := propext Iff.rfl
theorem anT_t : anT true u δ QB = u δ QB := propext Iff.rfl
theorem anT_f : anT false u δ QB = QB false := propext Iff.rfl
theorem orT_t : orT true u δ QB = QB true := propext Iff.rfl
theorem orT_f : orT false u δ QB = u δ QB := propext Iff.rfl
theorem z_seq : iSeq r δ QL = r δ fun d => seqD d QL := propext Iff.rfl
theorem z_seqL : seqD (.lst xs) QL = QL xs := propext Iff.rfl
theorem z_seqT : seqD (.tup xs) QL = QL xs := propext Iff.rfl
theorem z_seqSt : seqD (.str x) QL = QL (chars x) := propext Iff.rfl
theorem z_star : dStar r rA δ QL = r δ fun d => starD d fun xs => rA δ fun ys => QL (xs ++ ys) := propext Iff.rfl
theorem z_starT : starD (.tup xs) K = K xs := propext Iff.rfl
theorem z_starL : starD (.lst xs) K = K xs := propext Iff.rfl
theorem z_neg : oNeg (.int a) Q = Q (.int (-a)) := propext Iff.rfl
theorem z_sub : oSub (.int a) (.int b) Q = Q (.int (a - b)) := propext Iff.rfl
theorem z_mod : oMod (.int a) (.int b) Q = (0 < b ∧ Q (.int (a % b))) := propext Iff.rfl
theorem z_div : oDiv (.int a) (.int b) Q = (CDivW a b ∧ Q (.int (a / b))) := propext Iff.rfl
theorem z_lt : oLt (.int a) (.int b) Q = Q (.bl (decide (a < b))) := propext Iff.rfl
theorem z_le : oLe (.int a) (.int b) Q = Q (.bl (decide (a ≤ b))) := propext Iff.rfl
theorem z_gt : oGt (.int a) (.int b) Q = Q (.bl (decide (b < a))) := propext Iff.rfl
theorem z_ge : oGe (.int a) (.int b) Q = Q (.bl (decide (b ≤ a))) := propext Iff.rfl
theorem z_addI : oAdd (.int a) (.int b) Q = Q (.int (a + b)) := propext Iff.rfl
theorem z_addS : oAdd (.str x) (.str y) Q = (x.length + y.length ≤ sizeLine ∧ Q (.str (x ++ y))) := propext Iff.rfl
theorem z_addL : oAdd (.lst xs) (.lst ys) Q = (xs.length + ys.length ≤ sizeLine ∧ Q (.lst (xs ++ ys))) := propext Iff.rfl
theorem z_addT : oAdd (.tup xs) (.tup ys) Q = ((xs ≠ [] ∧ xs.length + ys.length ≤ sizeLine) ∧ Q (.tup (xs ++ ys))) := propext Iff.rfl
theorem z_iaddI : oIAdd (.int a) (.int b) Q = Q (.int (a + b)) := propext Iff.rfl
theorem z_iaddS : oIAdd (.str x) (.str y) Q = (x.length + y.length ≤ sizeLine ∧ Q (.str (x ++ y))) := propext Iff.rfl
theorem z_mulI : oMul (.int a) (.int b) Q = (MulOkD a b ∧ Q (.int (a * b))) := propext Iff.rfl
theorem z_mulS : oMul (.str x) (.int b) Q = ((0 ≤ b ∧ b ≤ 100000 ∧ x.length ≤ 100) ∧ Q (.str (repS x b.toNat))) := propext Iff.rfl
theorem z_mulL : oMul (.lst xs) (.int b) Q = ((-(2 ^ 63) ≤ b ∧ b < 2 ^ 63 ∧ xs.length * b.toNat ≤ sizeLine) ∧ Q (.lst (List.replicate b.toNat xs).flatten)) := propext Iff.rfl
theorem z_atD : atD (some d) Q = Q d := propext Iff.rfl
theorem z_atC {c : Nat} : atC (some c) Q = Q (.str ⟨#[c]⟩) := propext Iff.rfl
theorem z_ixL : oIx (.lst xs) (.int a) Q = atD (atI xs a) Q := propext Iff.rfl
theorem z_ixT : oIx (.tup xs) (.int a) Q = atD (atI xs a) Q := propext Iff.rfl
theorem z_ixS : oIx (.str x) (.int a) Q = (x.length ≤ sizeLine ∧ atC (atI x.cps.toList a) Q) := propext Iff.rfl
theorem z_ixL0 {e0 : D} : oIx (.lst (e0 :: xs)) (.int 0) Q = Q e0 := by
  show atD (atI _ 0) Q = _
  rw [atI0]
  rfl
theorem z_ixL1 {e0 e1 : D} : oIx (.lst (e0 :: e1 :: xs)) (.int 1) Q = Q e1 := by
  show atD (atI _ 1) Q = _
  rw [atI1]
  rfl
theorem z_ixL2 {e0 e1 e2 : D} : oIx (.lst (e0 :: e1 :: e2 :: xs)) (.int 2) Q = Q e2 := by
  show atD (atI _ 2) Q = _
  rw [atI2]
  rfl
theorem z_ixL3 {e0 e1 e2 e3 : D} : oIx (.lst (e0 :: e1 :: e2 :: e3 :: xs)) (.int 3) Q = Q e3 := by
  show atD (atI _ 3) Q = _
  rw [atI3]
  rfl
theorem z_ixL4 {e0 e1 e2 e3 e4 : D} : oIx (.lst (e0 :: e1 :: e2 :: e3 :: e4 :: xs)) (.int 4) Q = Q e4 := by
  show atD (atI _ 4) Q = _
  rw [atI4]
  rfl
theorem z_ixL5 {e0 e1 e2 e3 e4 e5 : D} : oIx (.lst (e0 :: e1 :: e2 :: e3 :: e4 :: e5 :: xs)) (.int 5) Q = Q e5 := by
  show atD (atI _ 5) Q = _
  rw [atI5]
  rfl
theorem z_ixL6 {e0 e1 e2 e3 e4 e5 e6 : D} : oIx (.lst (e0 :: e1 :: e2 :: e3 :: e4 :: e5 :: e6 :: xs)) (.int 6) Q = Q e6 := by
  show atD (atI _ 6) Q = _
  rw [atI6]
  rfl
theorem z_ixL7 {e0 e1 e2 e3 e4 e5 e6 e7 : D} : oIx (.lst (e0 :: e1 :: e2 :: e3 :: e4 :: e5 :: e6 :: e7 :: xs)) (.int 7) Q = Q e7 := by
  show atD (atI _ 7) Q = _
  rw [atI7]
  rfl
theorem z_ixT0 {e0 : D} : oIx (.tup (e0 :: xs)) (.int 0) Q = Q e0 := by
  show atD (atI _ 0) Q = _
  rw [atI0]
  rfl
theorem z_ixT1 {e0 e1 : D} : oIx (.tup (e0 :: e1 :: xs)) (.int 1) Q = Q e1 := by
  show atD (atI _ 1) Q = _
  rw [atI1]
  rfl
theorem z_ixT2 {e0 e1 e2 : D} : oIx (.tup (e0 :: e1 :: e2 :: xs)) (.int 2) Q = Q e2 := by
  show atD (atI _ 2) Q = _
  rw [atI2]
  rfl
theorem z_ixT3 {e0 e1 e2 e3 : D} : oIx (.tup (e0 :: e1 :: e2 :: e3 :: xs)) (.int 3) Q = Q e3 := by
  show atD (atI _ 3) Q = _
  rw [atI3]
  rfl
theorem z_ixT4 {e0 e1 e2 e3 e4 : D} : oIx (.tup (e0 :: e1 :: e2 :: e3 :: e4 :: xs)) (.int 4) Q = Q e4 := by
  show atD (atI _ 4) Q = _
  rw [atI4]
  rfl
theorem z_ixT5 {e0 e1 e2 e3 e4 e5 : D} : oIx (.tup (e0 :: e1 :: e2 :: e3 :: e4 :: e5 :: xs)) (.int 5) Q = Q e5 := by
  show atD (atI _ 5) Q = _
  rw [atI5]
  rfl
theorem z_ixT6 {e0 e1 e2 e3 e4 e5 e6 : D} : oIx (.tup (e0 :: e1 :: e2 :: e3 :: e4 :: e5 :: e6 :: xs)) (.int 6) Q = Q e6 := by
  show atD (atI _ 6) Q = _
  rw [atI6]
  rfl
theorem z_ixT7 {e0 e1 e2 e3 e4 e5 e6 e7 : D} : oIx (.tup (e0 :: e1 :: e2 :: e3 :: e4 :: e5 :: e6 :: e7 :: xs)) (.int 7) Q = Q e7 := by
  show atD (atI _ 7) Q = _
  rw [atI7]
  rfl
theorem z_eqS : oEq (.str x) (.str y) Q = Q (.bl (decide (x = y))) := propext Iff.rfl
theorem z_eqI : oEq (.int a) (.int b) Q = Q (.bl (decide (a = b))) := propext Iff.rfl
theorem z_eqB : oEq (.bl p) (.bl q) Q = Q (.bl (p == q)) := propext Iff.rfl
theorem z_eqL : oEq (.lst xs) (.lst ys) Q = ((plain (.lst xs) = true ∧ plain (.lst ys) = true) ∧ Q (.bl (eqb (.lst xs) (.lst ys)))) := propext Iff.rfl
theorem z_eqT : oEq (.tup xs) (.tup ys) Q = ((plain (.tup xs) = true ∧ plain (.tup ys) = true) ∧ Q (.bl (eqb (.tup xs) (.tup ys)))) := propext Iff.rfl
theorem z_neS : oNe (.str x) (.str y) Q = Q (.bl (!decide (x = y))) := propext Iff.rfl
theorem z_neI : oNe (.int a) (.int b) Q = Q (.bl (!decide (a = b))) := propext Iff.rfl
theorem z_neB : oNe (.bl p) (.bl q) Q = Q (.bl (!(p == q))) := propext Iff.rfl
theorem z_neL : oNe (.lst xs) (.lst ys) Q = ((plain (.lst xs) = true ∧ plain (.lst ys) = true) ∧ Q (.bl (!eqb (.lst xs) (.lst ys)))) := propext Iff.rfl
theorem z_neT : oNe (.tup xs) (.tup ys) Q = ((plain (.tup xs) = true ∧ plain (.tup ys) = true) ∧ Q (.bl (!eqb (.tup xs) (.tup ys)))) := propext Iff.rfl
theorem z_inL : oIn false d (.lst ys) Q = ((isFlat d = true ∧ ys.all isFlat = true) ∧ Q (.bl (inD d ys))) := propext Iff.rfl
theorem z_inT : oIn false d (.tup ys) Q = ((isFlat d = true ∧ ys.all isFlat = true) ∧ Q (.bl (inD d ys))) := propext Iff.rfl
theorem z_ninL : oIn true d (.lst ys) Q = ((isFlat d = true ∧ ys.all isFlat = true) ∧ Q (.bl (!inD d ys))) := propext Iff.rfl
theorem z_ninT : oIn true d (.tup ys) Q = ((isFlat d = true ∧ ys.all isFlat = true) ∧ Q (.bl (!inD d ys))) := propext Iff.rfl
theorem z_inK : oIn false d (.ktup ys) Q = ((isFlat d = true ∧ ys.all isFlat = true) ∧ Q (.bl (inD d ys))) := propext Iff.rfl
theorem z_ninK : oIn true d (.ktup ys) Q = ((isFlat d = true ∧ ys.all isFlat = true) ∧ Q (.bl (!inD d ys))) := propext Iff.rfl
theorem z_slL : oSl (.lst xs) lo hi Q = Q (.lst (cut xs lo hi)) := propext Iff.rfl
theorem z_slT : oSl (.tup xs) lo hi Q = Q (.tup (cut xs lo hi)) := propext Iff.rfl
theorem z_slS : oSl (.str x) lo hi Q = (x.length ≤ sizeLine ∧ Q (.str ⟨(cut x.cps.toList lo hi).toArray⟩)) := propext Iff.rfl
theorem z_lenL : cLen [.lst xs] Q = Q (.int xs.length) := propext Iff.rfl
theorem z_lenT : cLen [.tup xs] Q = Q (.int xs.length) := propext Iff.rfl
theorem z_lenS : cLen [.str x] Q = (x.length ≤ sizeLine ∧ Q (.int x.length)) := propext Iff.rfl
theorem z_intI : cInt [.int a] Q = Q (.int a) := propext Iff.rfl
theorem z_intB : cInt [.bl p] Q = Q (.int (if p then 1 else 0)) := propext Iff.rfl
theorem z_abs : cAbs [.int a] Q = Q (.int (if a < 0 then -a else a)) := propext Iff.rfl
theorem z_max : cMax [.int a, .int b] Q = Q (.int (if b > a then b else a)) := propext Iff.rfl
theorem z_min : cMin [.int a, .int b] Q = Q (.int (if b < a then b else a)) := propext Iff.rfl
theorem z_tupL : cTuple [.lst xs] Q = Q (.tup xs) := propext Iff.rfl
theorem z_tupT : cTuple [.tup xs] Q = Q (.tup xs) := propext Iff.rfl
theorem z_par {i j : Nat} {r1 r2 : DE} : dPar i j (dCons r1 (dCons r2 dNil)) W δ = r1 δ fun x => r2 δ fun y => W.nx ((δ.set i (some (.sh x))).set j (some (.sh y))) := propext Iff.rfl
end
def r1D (ds : List D) (QL : List D → Prop) : Prop := match ds with
  | [.int n] => (-(2 ^ 62) ≤ n ∧ n < 2 ^ 62) ∧ QL (ups 0 n.toNat)
  | _ => False
def r2D (ds : List D) (QL : List D → Prop) : Prop := match ds with
  | [.int i, .int j] => (-(2 ^ 62) ≤ i ∧ i < 2 ^ 62 ∧ -(2 ^ 62) ≤ j ∧ j < 2 ^ 62) ∧ QL (ups i (j - i).toNat)
  | _ => False
def fldD (C i : Nat) (d : D) (Q : D → Prop) : Prop := match d with
  | .obj C' fs => C' = C ∧ atD fs[i]? Q
  | _ => False
def isiD (T : String) (d : D) (Q : D → Prop) : Prop := match pureD d with
  | true => Q (.bl (isi T d))
  | false => False
def dgD (d y : D) (Q : D → Prop) : Prop := match d with
  | .dic ks => isKey y = true ∧ atD (lookD ks y) Q
  | _ => False
def dicD (ks : List Str) (ds : List D) (Q : D → Prop) : Prop := match decide (ds.length = ks.length) with
  | true => Q (.dic (zipS ks ds))
  | false => False
def mtD (T : String) (m : OM) (x : D) (rA : DA) (δ : DS) (Q : D → Prop) : Prop := match isT T x with
  | true => rA δ fun ds => m x ds Q
  | false => False
section
variable {δ : DS} {Q : D → Prop} {QL : List D → Prop} {r ra rb : DE} {rA : DA} {a b : Int} {x : Str} {xs ds : List D} {d : D} {C C' i : Nat} {S : FD} {SI : FI} {ks : List Str} {kv : List (D × D)} {T : String} {m : OM} {p : Bool}
theorem z_r1 : iR1 rA δ QL = rA δ fun ds => r1D ds QL := propext Iff.rfl
theorem z_r1D : r1D [.int a] QL = ((-(2 ^ 62) ≤ a ∧ a < 2 ^ 62) ∧ QL (ups 0 a.toNat)) := propext Iff.rfl
theorem z_r2 : iR2 rA δ QL = rA δ fun ds => r2D ds QL := propext Iff.rfl
theorem z_r2D : r2D [.int a, .int b] QL = ((-(2 ^ 62) ≤ a ∧ a < 2 ^ 62 ∧ -(2 ^ 62) ≤ b ∧ b < 2 ^ 62) ∧ QL (ups a (b - a).toNat)) := propext Iff.rfl
theorem z_fld : dFld C i r δ Q = r δ fun d => fldD C i d Q := propext Iff.rfl
theorem z_fldD : fldD C i (.obj C xs) Q = atD xs[i]? Q := by
  show (C = C ∧ _) = _
  simp
theorem z_prop : dProp C S r δ Q = r δ fun d => isO C d ∧ S [d] Q := propext Iff.rfl
theorem z_isO : isO C (.obj C xs) = True := by
  show (C = C) = True
  simp
theorem z_meth : dMeth C S r rA δ Q = r δ fun d => isO C d ∧ rA δ fun ds => S (d :: ds) Q := propext Iff.rfl
theorem z_callO : dCallO C S r rA δ Q = r δ fun d => isO C d ∧ rA δ fun ds => S (d :: ds) Q := propext Iff.rfl
theorem z_make : dMake C SI rA δ Q = rA δ fun ds => SI ds fun fs => Q (.obj C fs) := propext Iff.rfl
theorem z_own2 {x y : D} : oOwn C S x y Q = (isO C x ∧ isO C y ∧ S [x, y] Q) := propext Iff.rfl
theorem z_own1 {x : D} : oOwn1 C S x Q = (isO C x ∧ S [x] Q) := propext Iff.rfl
theorem z_ownNe {x y : D} : oOwnNe C S x y Q = (isO C x ∧ isO C y ∧ S [x, y] fun z => blD z fun b => Q (.bl (!b))) := propext Iff.rfl
theorem z_isi : dIsi T r δ Q = r δ fun d => isiD T d Q := propext Iff.rfl
theorem z_isiN : isiD T .non Q = Q (.bl (isi T .non)) := propext Iff.rfl
theorem z_isiB : isiD T (.bl p) Q = Q (.bl (isi T (.bl p))) := propext Iff.rfl
theorem z_isiI : isiD T (.int a) Q = Q (.bl (isi T (.int a))) := propext Iff.rfl
theorem z_isiS : isiD T (.str x) Q = Q (.bl (isi T (.str x))) := propext Iff.rfl
theorem z_isiL : isiD T (.lst xs) Q = Q (.bl (isi T (.lst xs))) := propext Iff.rfl
theorem z_isiT : isiD T (.tup xs) Q = Q (.bl (isi T (.tup xs))) := propext Iff.rfl
theorem z_isiD : isiD T (.dic kv) Q = Q (.bl (isi T (.dic kv))) := propext Iff.rfl
theorem z_dget : dDGet ra rb δ Q = ra δ fun d => rb δ fun y => dgD d y Q := propext Iff.rfl
theorem z_dgS : dgD (.dic kv) (.str x) Q = atD (lookD kv (.str x)) Q := by
  show (isKey (.str x) = true ∧ _) = _
  simp [isKey]
theorem z_dgI : dgD (.dic kv) (.int a) Q = atD (lookD kv (.int a)) Q := by
  show (isKey (.int a) = true ∧ _) = _
  simp [isKey]
theorem z_dic : dDic ks rA δ Q = rA δ fun ds => dicD ks ds Q := propext Iff.rfl
theorem z_dicD (h : ds.length = ks.length) : dicD ks ds Q = Q (.dic (zipS ks ds)) := by unfold dicD; simp only [h, decide_true]
theorem z_mt : dMt T m r rA δ Q = r δ fun x => mtD T m x rA δ Q := propext Iff.rfl
theorem z_mtS : mtD "str" m (.str x) rA δ Q = rA δ fun ds => m (.str x) ds Q := propext Iff.rfl
theorem z_mtL : mtD "list" m (.lst xs) rA δ Q = rA δ fun ds => m (.lst xs) ds Q := propext Iff.rfl
end
end DL
namespace DL
open PySem PySem.Spec PyProof.Rows L2 Evl
/-! a dict of the module, texts to texts -/
def KdAll (K : PySem.W.Frag) (a : Addr) : List (Str × Str) → Prop
  | [] => True
  | (x, v) :: r => (∃ t, PySem.W.nsIn K a x = some (some (.str v t))) ∧ KdAll K a r
theorem kd_nil {K : PySem.W.Frag} {a : Addr} : KdAll K a [] := trivial
theorem kd_cons {K : PySem.W.Frag} {a : Addr} {x v : Str} {t : Tok} {r : List (Str × Str)} (h : PySem.W.nsIn K a x = some (some (.str v t))) (hr : KdAll K a r) : KdAll K a ((x, v) :: r) := ⟨⟨t, h⟩, hr⟩
structure KDs (K : PySem.W.Frag) (w : World) (a : Addr) (tbl : List (Str × Str)) : Prop where
  ex : ∃ es n, K.lookup a = some ⟨.type "dict", none, .dict es n, #[]⟩ ∧ PySem.W.KeysLit w.params es.toList
  all : KdAll K a tbl
def kget (tbl : List (Str × Str)) (x : Str) : Option Str := (tbl.find? fun z => decide (z.1 = x)).map (·.2)
theorem kget_at {K : PySem.W.Frag} {a : Addr} {x v : Str} : ∀ {tbl : List (Str × Str)}, KdAll K a tbl → kget tbl x = some v → ∃ t, PySem.W.nsIn K a x = some (some (.str v t))
  | [], _, h => by cases h
  | (y, u) :: r, h1, h => by
    unfold kget at h
    rw [List.find?_cons] at h
    by_cases e : y = x
    · subst e
      simp only [decide_true, Option.map_some, Option.some.injEq] at h
      subst h
      exact h1.1
    · rw [decide_eq_false e] at h
      exact kget_at h1.2 h
theorem KDs.at {K : PySem.W.Frag} {w : World} {a : Addr} {tbl : List (Str × Str)} {x v : Str} (h : KDs K w a tbl) (e : kget tbl x = some v) : KDct K w a x (.str v) := by
  obtain ⟨es, n, h1, h2⟩ := h.ex
  obtain ⟨t, h3⟩ := kget_at h.all e
  exact ⟨es, n, .str v t, h1, h2, h3, t, rfl⟩
def kgD (tbl : List (Str × Str)) (y : D) (Q : D → Prop) : Prop := match y with
  | .str x => match kget tbl x with
    | some v => Q (.str v)
    | none => False
  | _ => False
def dKGet (tbl : List (Str × Str)) (r : DE) : DE := fun δ Q => r δ fun y => kgD tbl y Q
theorem z_kget {tbl : List (Str × Str)} {r : DE} {δ : DS} {Q : D → Prop} : dKGet tbl r δ Q = r δ fun y => kgD tbl y Q := rfl
section
variable {X : Cx} {B : Bx} {i o : Expr} {r ry rx : DE} {pos : Pos}
theorem pd_kget {cn : Str} {a : Addr} {tbl : List (Str × Str)} {p : Pos} (hk : KDs X.K X.w a tbl) (hg : Gl X cn) (hm : X.mg cn = some (.ref a)) (hi : PD X B i r) (hs : PlainIx i := by intro _ _; rfl) (hd : (cn == ("__debug__" : Str)) = false := by decide) : PD X B (.Subscript (.Name cn p) i pos) (dKGet tbl r) :=
  pe_mono (pe_ix ix_kdict (pe_glob (v := .ref a) hg hm rfl hd) hi hs) fun σ H P q => by
    obtain ⟨H0, G, δ, Q, j, st, hr, k⟩ := q
    refine ⟨H0, G, δ, _, j, st, hr, fun d v G2 H2 q2 g2 d2 => ?_⟩
    cases d2 with
    | str x =>
      have q2 : (match kget tbl x with | some v => Q (.str v) | none => False) := q2
      cases e : kget tbl x with
      | none => rw [e] at q2; exact q2.elim
      | some v =>
        rw [e] at q2
        exact ⟨a, x, .str v, rfl, rfl, hk.at e, k _ _ G2 H2 q2 g2 (.str _)⟩
    | _ => exact q2.elim
/-! d.get(k, x) -/
theorem look_none {K : PySem.W.Frag} {G : Hp} {k : Key} {y : D} (hy : (match k with | .inl i => D.int i | .inr x => D.str x) = y) : ∀ {kvs : List (Key × V)} {ds : List (D × D)}, DatK K B G kvs ds → lookD ds y = none → valV kvs k = none
  | _, _, .nil, _ => valV_nil
  | _, _, .consI (i := i) hv ht, h => by
    unfold lookD at h
    rw [List.find?_cons] at h
    subst hy
    cases k with
    | inl i' =>
      by_cases e : i = i'
      · subst e
        have : keq (.int i) (.int i) = true := decide_eq_true rfl
        simp only [this, Option.map_some] at h
        cases h
      · have : keq (.int i) (.int i') = false := decide_eq_false e
        simp only [this] at h
        rw [valV_neg (fun z => e (Sum.inl.inj z))]
        exact look_none (k := .inl i') rfl ht h
    | inr x =>
      have : keq (.int i) (.str x) = false := rfl
      simp only [this] at h
      rw [valV_neg (by intro z; cases z)]
      exact look_none (k := .inr x) rfl ht h
  | _, _, .consS (x := x) hv ht, h => by
    unfold lookD at h
    rw [List.find?_cons] at h
    subst hy
    cases k with
    | inr x' =>
      by_cases e : x = x'
      · subst e
        have : keq (.str x) (.str x) = true := decide_eq_true rfl
        simp only [this, Option.map_some] at h
        cases h
      · have : keq (.str x) (.str x') = false := decide_eq_false e
        simp only [this] at h
        rw [valV_neg (fun z => e (Sum.inr.inj z))]
        exact look_none (k := .inr x') rfl ht h
    | inl i =>
      have : keq (.str x) (.int i) = false := rfl
      simp only [this] at h
      rw [valV_neg (by intro z; cases z)]
      exact look_none (k := .inl i) rfl ht h
def okKeys (ks : List (D × D)) : Bool := match ks with
  | (k, _) :: _ => isKey k
  | [] => false
def dg2D (d y z : D) (Q : D → Prop) : Prop := match d with
  | .dic ks => (isKey y = true ∧ okKeys ks = true) ∧ Q ((lookD ks y).getD z)
  | _ => False
def isDic (d : D) : Prop := match d with
  | .dic _ => True
  | _ => False
def dDGet2 (r ry rx : DE) : DE := fun δ Q => r δ fun d => isDic d ∧ ry δ fun y => rx δ fun z => dg2D d y z Q
theorem z_dget2 {δ : DS} {Q : D → Prop} : dDGet2 r ry rx δ Q = r δ fun d => isDic d ∧ ry δ fun y => rx δ fun z => dg2D d y z Q := rfl
theorem z_isDic {ks : List (D × D)} : isDic (.dic ks) = True := rfl
theorem z_dg2S {ks : List (D × D)} {x : Str} {z : D} {Q : D → Prop} (h : okKeys ks = true) : dg2D (.dic ks) (.str x) z Q = Q ((lookD ks (.str x)).getD z) := by
  show ((isKey (.str x) = true ∧ okKeys ks = true) ∧ _) = _
  simp [isKey, h]
theorem pd_dget2 {e f : Expr} {apos cpos : Pos} (hu : X.A.units + 1 < cLine) (ho : PD X B o r) (he : PD X B e ry) (hf : PD X B f rx) (m : M2 X o "get" apos e f cpos) : PD X B (.Call (.Attribute o "get" apos) [e, f] [] cpos) (dDGet2 r ry rx) := pe_mono (pe_dget2 hu ho he hf m) fun σ H P q => by
  obtain ⟨H0, G, δ, Q, j, st, hr, k⟩ := q
  refine ⟨H0, G, δ, _, j, st, hr, fun d v G2 H2 q2 g2 d2 => ?_⟩
  obtain ⟨i2, q2⟩ := q2
  have main : ∀ (a : Addr), v = .ref a → IsD H2 a → (∀ (y z : D) (u w : V) (G4 H4 : Hp), Gr X.K B G2 H2 G4 H4 → Dat X.K B G4 u y → Dat X.K B G4 w z → dg2D d y z Q → ∃ o, DGet H4 a u o ∧ P (o.getD w) H4) →
      ∃ a, v = .ref a ∧ IsD H2 a ∧ liftE X.K B ry σ H2 fun y H2 => liftE X.K B rx σ H2 fun z H3 => ∃ o, DGet H3 a y o ∧ P (o.getD z) H3 := fun a e1 e2 e3 => by
    refine ⟨a, e1, e2, H0, G2, δ, _, g2.j, st.gr g2, q2, fun y u G3 H3 q3 g3 d3 => ?_⟩
    refine ⟨H0, G3, δ, _, g3.j, (st.gr g2).gr g3, q3, fun z w G4 H4 q4 g4 d4 => ?_⟩
    exact e3 y z u w G4 H4 (g3.trans g4) (d3.mono g4.ex) d4 q4
  cases d2 with
  | @dK a od kvs ds h1 h2 =>
    refine main a rfl (.inl ⟨kvs, .inr ⟨od, g2.j.ex _ _ h1⟩⟩) fun y z u w G4 H4 g4 dy dz q4 => ?_
    obtain ⟨⟨ky, _⟩, q4⟩ := q4
    have h2' := h2.mono g4.ex
    have ha := g4.j.ex _ _ (g4.ex _ _ h1)
    have fin : ∀ (kk : Key), kV kk = u → (match kk with | .inl i => D.int i | .inr x => D.str x) = y → ∃ o, DGet H4 a u o ∧ P (o.getD w) H4 := fun kk ek ey => by
      subst ek
      cases hl : lookD ds y with
      | none =>
        rw [hl] at q4
        exact ⟨none, by rw [← look_none ey h2' hl]; exact .inl ⟨kvs, kk, .inr ⟨od, ha⟩, rfl, rfl⟩, k _ _ G4 H4 q4 (g2.trans g4) dz⟩
      | some d' =>
        rw [hl] at q4
        obtain ⟨v', e1, e2⟩ := look_k ey h2' hl
        exact ⟨some v', by rw [← e1]; exact .inl ⟨kvs, kk, .inr ⟨od, ha⟩, rfl, rfl⟩, k _ _ G4 H4 q4 (g2.trans g4) e2⟩
    cases dy with
    | int n => exact fin (.inl n) rfl rfl
    | str x => exact fin (.inr x) rfl rfl
    | _ => cases ky
  | @dT a od kvs ds h1 h2 =>
    refine main a rfl (.inr ⟨kvs, .inr ⟨od, g2.j.ex _ _ h1⟩⟩) fun y z u w G4 H4 g4 dy dz q4 => ?_
    obtain ⟨⟨_, ok⟩, _⟩ := q4
    cases h2 with
    | nil => cases ok
    | cons _ _ => cases ok
  | _ => exact i2.elim
end
theorem ex_kd {K : PySem.W.Frag} {mg : Str → Option Value} {h : Heap} {w : World} {x : Str} {p : Addr} {es : Array DictEntry} {n : Nat} {tbl : List (Str × Str)} (X : K.In h) (G : h.Ns mainGlobals mg) (a : PySem.W.nsIn K mainGlobals x = some (some (.ref p))) (l : K.lookup p = some ⟨.type "dict", none, .dict es n, #[]⟩) (k : PySem.W.KeysLit w.params es.toList) (v : KdAll K p tbl) :
    ∃ p, mg x = some (.ref p) ∧ KDs K w p tbl := ⟨p, PySem.W.mg_of X G a, ⟨es, n, l, k⟩, v⟩
end DL
namespace DL
open PySem PySem.Spec PyProof.Rows L2 Evl
section
variable {X : Cx} {B : Bx} {e : Expr} {r : DE} {pos : Pos}
/-! what is never reached -/
def dNo : DE := fun _ _ => False
def tNo : DT := fun _ _ => False
theorem pd_no : PD X B e dNo := ⟨fun pins s σ H Q I hw => by obtain ⟨_, _, _, _, _, _, h, _⟩ := hw; exact h.elim⟩
theorem ptd_no : PTD X B e tNo := ⟨fun pins s σ H Q I hw => by obtain ⟨_, _, _, _, _, _, h, _⟩ := hw; exact h.elim⟩
/-! enumerate(list) -/
def enumD (xs : List D) : List D := xs.zipIdx.map fun z => .tup [.int (z.2 : Nat), z.1]
theorem enum_len (xs : List D) : (enumD xs).length = xs.length := by simp [enumD]
theorem enum_at {xs : List D} {i : Nat} {d : D} (h : (enumD xs)[i]? = some d) : ∃ x, xs[i]? = some x ∧ d = .tup [.int (i : Nat), x] := by
  unfold enumD at h
  rw [List.getElem?_map, List.getElem?_zipIdx] at h
  cases hx : xs[i]? with
  | none => rw [hx] at h; cases h
  | some x =>
    rw [hx] at h
    simp only [Option.map_some, Option.some.injEq, Nat.zero_add] at h
    exact ⟨x, rfl, h.symm⟩
def enD (d : D) (Q : List D → Prop) : Prop := match d with
  | .lst xs => Q (enumD xs)
  | _ => False
def iEn (ra : DA) : DA := fun δ Q => ra δ fun ds => match ds with
  | [d] => enD d Q
  | _ => False
theorem itd_enum {K : PySem.W.Frag} {G : Hp} {a : Addr} {xs : List V} {ds : List D} (h : G a = some (.lst xs)) (hd : Dats K B G xs ds) : ItD K B (Ite K a) G (enumD ds) where
  go := fun i G1 H e j hi => by
    rw [enum_len] at hi
    exact ⟨xs, xs[i]'(by rw [hd.len]; exact hi), sq_of (j.ex _ _ (e _ _ h)), by simp⟩
  yld := fun i G1 H x H' d e j y hi => by
    obtain ⟨T, u, rfl, hT, rfl, y⟩ := y
    obtain ⟨z, hz, rfl⟩ := enum_at hi
    have q := y xs (sq_of (j.ex _ _ (e _ _ h)))
    obtain ⟨w, h1, h2⟩ := hd.get hz
    rw [q] at h1
    cases h1
    have g := Gr.new (o := .tup [.int (i : Nat), u]) j hT
    exact ⟨_, g, .tup upd_same (.cons (.int _) (.cons (h2.mono (e.trans g.ex)) .nil))⟩
  stop := fun i G1 H e j hi => by
    rw [enum_len] at hi
    exact ⟨xs, sq_of (j.ex _ _ (e _ _ h)), by rw [hd.len]; exact hi⟩
theorem pid_enum {elts : List Expr} {kk : Nat} {ra : DA} {p tpos : Pos} (hg : Gl X "enumerate") (hm : X.mg "enumerate" = none) (ha : PAD X B [e] ra) (hs : starEach [e] X.env = [(false, eval e X.env)] := by rfl) :
    PID X B (.Tuple elts kk tpos) (.Call (.Name "enumerate" p) [e] [] pos) (iEn ra) :=
  ⟨fun pins s σ H R I h => (pi_enum (elts := elts) (kk := kk) (tpos := tpos) hg hm ha hs).run pins s σ H R I (by
    obtain ⟨H0, G, δ, Q, j, st, hr, k⟩ := h
    refine ⟨H0, G, δ, _, j, st, hr, fun ds vs G2 H2 q2 g2 h2 => ?_⟩
    cases h2 with
    | nil => exact q2.elim
    | cons h3 h4 =>
      cases h4 with
      | cons _ _ => exact q2.elim
      | nil =>
        cases h3 with
        | lst h5 h6 => exact ⟨_, _, rfl, sq_of (g2.j.ex _ _ h5), k _ _ G2 H2 q2 g2 (itd_enum h5 h6)⟩
        | _ => exact q2.elim)⟩
def enLD (ds : List D) (Q : List D → Prop) : Prop := match ds with
  | [d] => enD d Q
  | _ => False
theorem z_en {ra : DA} {δ : DS} {Q : List D → Prop} : iEn ra δ Q = ra δ fun ds => enLD ds Q := propext Iff.rfl
theorem z_enL {d : D} {Q : List D → Prop} : enLD [d] Q = enD d Q := propext Iff.rfl
theorem z_enD {xs : List D} {Q : List D → Prop} : enD (.lst xs) Q = Q (enumD xs) := propext Iff.rfl
theorem enum2 (x y : D) : enumD [x, y] = [.tup [.int 0, x], .tup [.int 1, y]] := rfl
theorem enum3 (x y z : D) : enumD [x, y, z] = [.tup [.int 0, x], .tup [.int 1, y], .tup [.int 2, z]] := rfl
end
/-! a search: a loop that returns at the first hit -/
theorem for_find {α : Type} {g : DG} {tb : DTS} {W : DEnds} (I : DS → Prop) (f : α → Option D) (en : α → D) : ∀ (xs : List α),
    (∀ x ∈ xs, ∀ δ, I δ → ∀ K : DS → Prop, (f x = none → ∀ δ2, I δ2 → K δ2) → (∀ v, f x = some v → W.rt v) → g (en x) δ fun δ' => tb { W with nx := K, ct := K, bk := W.nx } δ') →
    (∀ v, xs.findSome? f = some v → W.rt v) → (xs.findSome? f = none → ∀ δ, I δ → W.nx δ) → ∀ δ, I δ → forD g tb W (xs.map en) δ
  | [], _, _, hn, δ, hi => hn rfl δ hi
  | x :: xs, hb, hr, hn, δ, hi => by
    have e : (x :: xs).findSome? f = (match f x with | some v => some v | none => xs.findSome? f) := by rw [List.findSome?_cons]; cases f x <;> rfl
    show g (en x) δ fun δ' => tb { W with nx := forD g tb W (xs.map en), ct := forD g tb W (xs.map en), bk := W.nx } δ'
    refine hb x List.mem_cons_self δ hi _ (fun hf => ?_) (fun v hv => hr v (by rw [e, hv]))
    rw [e, hf] at hr hn
    exact for_find I f en xs (fun z hz => hb z (List.mem_cons_of_mem _ hz)) hr hn
theorem ex_str {K : PySem.W.Frag} {mg : Str → Option Value} {h : Heap} {x v : Str} {t : Tok} (X : K.In h) (G : h.Ns mainGlobals mg) (a : PySem.W.nsIn K mainGlobals x = some (some (.str v t))) : ∃ t, mg x = some (.str v t) := ⟨t, PySem.W.mg_of X G a⟩
theorem ups_map (lo : Int) (n : Nat) : ups lo n = (List.range n).map fun k : Nat => D.int (lo + (k : Int)) := rfl
end DL
namespace DL
open PySem PySem.Spec PyProof.Rows L2 Evl
/-! new trees of one's own -/
abbrev OE := DS → (OD → Prop) → Prop
abbrev OA := DS → (List OD → Prop) → Prop
abbrev FO := List D → (OD → Prop) → Prop
def Fresh (B : Bx) (H : Hp) (f : List Addr) : Prop := f.Nodup ∧ ∀ p ∈ f, H p = none ∧ p ≠ B.b
def liftW (K : PySem.W.Frag) (B : Bx) (r : OE) : TE := fun σ H P => ∃ (H0 G : Hp) (δ : DS) (Q : OD → Prop), Jn K B G H ∧ StOk K B H0 G H σ δ ∧ r δ Q ∧ ∀ o v f G2 H2, Q o → Gr K B G H G2 H2 → Own K B G2 H2 v o f → Fresh B H f → P v H2
def liftWA (K : PySem.W.Frag) (B : Bx) (r : OA) : TA := fun σ H P => ∃ (H0 G : Hp) (δ : DS) (Q : List OD → Prop), Jn K B G H ∧ StOk K B H0 G H σ δ ∧ r δ Q ∧ ∀ os vs f G2 H2, Q os → Gr K B G H G2 H2 → Owns K B G2 H2 vs os f → Fresh B H f → P vs H2
abbrev PO (X : Cx) (B : Bx) (e : Expr) (r : OE) : Prop := PE X e (liftW X.K B r)
abbrev PAO (X : Cx) (B : Bx) (es : List Expr) (r : OA) : Prop := PA X es (liftWA X.K B r)
section
variable {K : PySem.W.Frag} {B : Bx} {G H G2 H2 : Hp}
theorem Gr.kept (g : Gr K B G H G2 H2) {f : List Addr} (h : ∀ p ∈ f, Mu H p ∧ p ≠ B.b) : Kept G H G2 H2 f := fun p hp => by
  refine ⟨?_, g.old p (h p hp).1⟩
  cases q : H p with
  | none => exact absurd q (h p hp).1.ne
  | some o => exact g.keep p o (h p hp).2 q
theorem Own.gr {v : V} {o : OD} {f : List Addr} (h : Own K B G H v o f) (g : Gr K B G H G2 H2) (hf : ∀ p ∈ f, p ≠ B.b) : Own K B G2 H2 v o f := h.keep g.ex (g.kept fun p hp => ⟨(h.node p hp).at, hf p hp⟩)
theorem Owns.gr {v : List V} {o : List OD} {f : List Addr} (h : Owns K B G H v o f) (g : Gr K B G H G2 H2) (hf : ∀ p ∈ f, p ≠ B.b) : Owns K B G2 H2 v o f := h.keep g.ex (g.kept fun p hp => ⟨(h.node p hp).at, hf p hp⟩)
theorem Fresh.nil : Fresh B H [] := ⟨List.nodup_nil, fun p hp => nomatch hp⟩
theorem Fresh.back {G0 H0 : Hp} {f : List Addr} (h : Fresh B H f) (g : Gr K B G0 H0 G H) : Fresh B H0 f := ⟨h.1, fun p hp => ⟨g.free (h.2 p hp).1, (h.2 p hp).2⟩⟩
/-- first ones, then others -/
theorem Fresh.app {v : V} {o : OD} {f f2 : List Addr} (h : Fresh B H f) (ow : Own K B G2 H2 v o f) (g : Gr K B G H G2 H2) (h2 : Fresh B H2 f2) : Fresh B H (f ++ f2) := by
  refine ⟨List.nodup_append.mpr ⟨h.1, h2.1, fun a ha b hb e => ?_⟩, fun p hp => (List.mem_append.mp hp).elim (h.2 p) fun z => ⟨g.free (h2.2 p z).1, (h2.2 p z).2⟩⟩
  subst e
  exact (ow.node a ha).at.ne (h2.2 a hb).1
end
section
variable {X : Cx} {B : Bx} {e : Expr} {es : List Expr} {r : DE} {ra : DA} {ro : OE} {rao : OA} {pos : Pos}
def oD (r : DE) : OE := fun δ Q => r δ fun d => Q (.sh d)
def oF (ra : DA) : OE := fun δ Q => ra δ fun ds => Q (.lst (ds.map .sh))
theorem po_d (h : PD X B e r) : PO X B e (oD r) := pe_mono h fun σ H P q => by
  obtain ⟨H0, G, δ, Q, j, st, hr, k⟩ := q
  exact ⟨H0, G, δ, _, j, st, hr, fun d v G2 H2 q2 g2 h2 => k _ v [] G2 H2 q2 g2 (.sh h2) Fresh.nil⟩
theorem po_f (h : PF X B e ra) : PO X B e (oF ra) := pe_mono h fun σ H P q => by
  obtain ⟨H0, G, δ, Q, j, st, hr, k⟩ := q
  refine ⟨H0, G, δ, _, j, st, hr, fun ds p vs G2 H2 q2 g2 hp gp h2 hd => k _ _ [p] G2 H2 q2 g2 (.lst h2 gp (Owns.of hd)) ⟨List.nodup_cons.mpr ⟨List.not_mem_nil, List.nodup_nil⟩, fun q hq => ?_⟩⟩
  cases List.mem_singleton.mp hq
  exact ⟨hp, Gr.neB j hp⟩
def oNil : OA := fun _ Q => Q []
def oCons (r : OE) (ra : OA) : OA := fun δ Q => r δ fun x => ra δ fun xs => Q (x :: xs)
theorem pao_nil : PAO X B [] oNil := pa_mono pa_nil fun σ H P q => by
  obtain ⟨H0, G, δ, Q, j, st, hr, k⟩ := q
  exact k [] [] [] G H hr (Gr.refl j) .nil Fresh.nil
theorem pao_cons (h : PO X B e ro) (ha : PAO X B es rao) (hs : starEach (e :: es) X.env = (false, eval e X.env) :: starEach es X.env := by rfl) : PAO X B (e :: es) (oCons ro rao) := pa_mono (pa_cons h ha hs) fun σ H P q => by
  obtain ⟨H0, G, δ, Q, j, st, hr, k⟩ := q
  refine ⟨H0, G, δ, _, j, st, hr, fun o v f G2 H2 q2 g2 h2 f2 => ?_⟩
  refine ⟨H0, G2, δ, _, g2.j, st.gr g2, q2, fun os vs f3 G3 H3 q3 g3 h3 f4 => ?_⟩
  exact k _ _ _ G3 H3 q3 (g2.trans g3) (.cons (h2.gr g3 fun p hp => (f2.2 p hp).2) h3) (f2.app h2 g2 f4)
/-- [a, b, ..] -/
def oLst (ra : OA) : OE := fun δ Q => ra δ fun os => szD os.length (Q (.lst os))
theorem Own.newL {K : PySem.W.Frag} {G H G2 H2 : Hp} {vs : List V} {os : List OD} {f : List Addr} {p : Addr} (g2 : Gr K B G H G2 H2) (h : Owns K B G2 H2 vs os f) (hf : Fresh B H f) (hp : H2 p = none) :
    Gr K B G H G2 (upd H2 p (.lst vs)) ∧ Own K B G2 (upd H2 p (.lst vs)) (.ref p) (.lst os) (p :: f) ∧ Fresh B H (p :: f) := by
  have np : p ∉ f := fun z => (h.node p z).at.ne hp
  refine ⟨g2.trans (Gr.new0 g2.j hp), .lst upd_same (fresh_back g2.j.ex hp) (h.past np), List.nodup_cons.mpr ⟨np, hf.1⟩, fun q hq => ?_⟩
  rcases List.mem_cons.mp hq with rfl | hq
  · exact ⟨g2.free hp, Gr.neB g2.j hp⟩
  · exact hf.2 q hq
theorem po_lst (h : PAO X B es rao) : PO X B (.List es pos) (oLst rao) := pe_mono (pe_lst h) fun σ H P q => by
  obtain ⟨H0, G, δ, Q, j, st, hr, k⟩ := q
  refine ⟨H0, G, δ, _, j, st, hr, fun os vs f G2 H2 q2 g2 h2 f2 => ?_⟩
  have q2 : (match decide (os.length ≤ 1000) with | true => Q (.lst os) | false => False) := q2
  cases hz : decide (os.length ≤ 1000) with
  | false => rw [hz] at q2; exact q2.elim
  | true =>
    rw [hz] at q2
    refine ⟨sz1000 (by rw [h2.len]; exact of_decide_eq_true hz), fun p hp => ?_⟩
    obtain ⟨g3, o3, f3⟩ := Own.newL g2 h2 f2 hp
    exact k _ _ _ _ _ q2 g3 o3 f3
/-- {} -/
def oDic0 (t : Bool) : OE := fun _ Q => Q (.dic t [])
theorem po_dicK : PO X B (.Dict [] [] pos) (oDic0 false) := pe_mono pe_dnewK fun σ H P q p hp => by
  obtain ⟨H0, G, δ, Q, j, st, hr, k⟩ := q
  refine k _ _ [p] G _ hr (Gr.new0 j hp) (.dK upd_same (fresh_back j.ex hp) .nil) ⟨List.nodup_cons.mpr ⟨List.not_mem_nil, List.nodup_nil⟩, fun q hq => ?_⟩
  cases List.mem_singleton.mp hq
  exact ⟨hp, Gr.neB j hp⟩
theorem po_dicT : PO X B (.Dict [] [] pos) (oDic0 true) := pe_mono pe_dnewT fun σ H P q p hp => by
  obtain ⟨H0, G, δ, Q, j, st, hr, k⟩ := q
  refine k _ _ [p] G _ hr (Gr.new0 j hp) (.dT upd_same (fresh_back j.ex hp) .nil) ⟨List.nodup_cons.mpr ⟨List.not_mem_nil, List.nodup_nil⟩, fun q hq => ?_⟩
  cases List.mem_singleton.mp hq
  exact ⟨hp, Gr.neB j hp⟩
/-- it becomes data -/
def dFz (ro : OE) : DE := fun δ Q => ro δ fun o => Q o.toD
theorem pd_fz (h : PO X B e ro) : PD X B e (dFz ro) := ⟨fun pins s σ H P I q => by
  obtain ⟨H0, G, δ, Q, j, st, hr, k⟩ := q
  refine thn (h.run pins s σ H (fun v H1 => ∃ o f G2, Q o.toD ∧ Gr X.K B G H G2 H1 ∧ Own X.K B G2 H1 v o f ∧ Fresh B H f) I ⟨H0, G, δ, _, j, st, hr, fun o v f G2 H2 q2 g2 h2 f2 => ⟨o, f, G2, q2, g2, h2, f2⟩⟩) fun u s1 ⟨v, H1, I1, r1, o, f, G2, q2, g2, h2, f2⟩ => ?_
  obtain ⟨L, I2, l⟩ := lock_all f I1 f2.1
  have hf : ∀ p ∈ f, H p = none ∧ p ≠ B.b ∧ G2 p = none := fun p hp => ⟨(f2.2 p hp).1, (f2.2 p hp).2, (h2.node p hp).1⟩
  exact ⟨v, L, I2, r1, k _ v _ L q2 ((g2.lock l hf).frzs hf) (h2.dat (fun p hp => (hf p hp).2.2) l fun p hp => hp)⟩⟩
/-- x = e -/
def dSetT (i : Nat) (ro : OE) : DTS := fun W δ => ro δ fun o => ∀ v, W.nx (δ.set i (some (.ow v o)))
theorem psd_setT {i : Nat} {x : Str} {pos' : Pos} (hN : X.N.Nodup) (hi : X.N[i]? = some x) (hx : Loc X.env.scope x) (he : PO X B e ro) (hs : swapsWith e (some (.Name x pos')) pos.line X.env = pure false := by rfl) (hf : X.fn x = true ∨ X.env.scope.names.lookup x = some .local := by first | exact .inl rfl | exact .inr rfl | assumption) :
    PSD X B (.Assign [.Name x pos'] e pos) (dSetT i ro) := ps_mono (ps_set hN hi hx he hs hf) fun E σ H q => by
  obtain ⟨G0, H0, G, δ, W, g0, s, h, k⟩ := q
  refine ⟨H0, G, δ, _, g0.j, s, h, fun o v f G2 H2 q2 g2 h2 f2 => ?_⟩
  exact k.nx _ _ _ _ (q2 v) (g0.trans g2) g2.ex (s.setO g2 h2 f2.1 fun p hp => ⟨(f2.2 p hp).1, g0.free (f2.2 p hp).1, (f2.2 p hp).2⟩)
/-- return e, and return x, of what is one's own -/
def dRetE (ro : OE) : DTS := fun W δ => ro δ W.ro
theorem psd_retE (h : PO X B e ro) : PSD X B (.Return (some e) pos) (dRetE ro) := ps_mono (ps_ret h) fun E σ H q => by
  obtain ⟨G0, H0, G, δ, W, g0, s, h, k⟩ := q
  refine ⟨H0, G, δ, _, g0.j, s, h, fun o v f G2 H2 q2 g2 h2 f2 => ?_⟩
  exact k.ro _ _ _ _ _ q2 (g0.trans g2) g2.ex h2 f2.1 (f2.back g0).2
def dRetO (i : Nat) : DTS := fun W δ => ownO δ[i]? fun _ o => W.ro o
theorem psd_retO {i : Nat} (h : PE X e (tVar i)) : PSD X B (.Return (some e) pos) (dRetO i) := ps_mono (ps_ret h) fun E σ H q => by
  obtain ⟨G0, H0, G, δ, W, g0, s, h, k⟩ := q
  have h : ownO δ[i]? (fun _ o => W.ro o) := h
  unfold ownO at h
  split at h
  · rename_i v o h1
    obtain ⟨F, y⟩ := s.ex
    obtain ⟨e1, e2, e3, e4⟩ := y.ow h1
    exact ⟨v, e1, k.ro _ _ _ _ _ h g0 (Ex.refl _) e2 e3 e4⟩
  · exact h.elim
end
/-! a def that gives what is one's own -/
def spO (K : PySem.W.Frag) (B : Bx) (S : FO) : Sp := fun vs H P _ => ∃ (G : Hp) (ds : List D) (Q : OD → Prop), Jn K B G H ∧ Dats K B G vs ds ∧ S ds Q ∧ ∀ o v f G2 H2, Q o → Gr K B G H G2 H2 → Own K B G2 H2 v o f → Fresh B H f → P v H2
section
variable {P : Program} {w : World} {K : PySem.W.Frag} {mg : Str → Option Value} {base : Heap}
theorem fn_o {x qual : Str} {st : Stmt} {f : Addr} {fd : FuncData} {N ps : List Str} {k : Nat} {B : Bx} {S : FO} {t : DTS} (F : Fun K x qual st f fd) (Sc : FnScope N ps (defScope st)) (len : ∀ ds Q, S ds Q → ds.length = ps.length)
    (hbody : ∀ (cdv : Value) (A : Around) (outer : List Env) (s : Shared) (H : Hp) (E : XK), Room k (A.deeper (envOfC qual (defScope st) s.heap.objs.size f cdv)) → PSsD (cxOf CX0 P w K mg base N qual (defScope st) f cdv A outer s H E).nox B (defBody st) t)
    (vc : ∀ ds Q, S ds Q → t { nx := fun _ => Q (.sh .non), rt := fun d => Q (.sh d), ro := Q } (startD N.length ds)) : FnOk P w K mg base CX0 (k + 1) f fd ps (spO K B S) := by
  refine F.ok Sc (fun vs H Q E h => ?_) (fun cdv A outer s H vs Q E hr h => ⟨_, hbody cdv A outer s H E hr, ?_⟩)
  · obtain ⟨G, ds, R, j, hd, hs, _⟩ := h
    rw [hd.len]
    exact len ds R hs
  · obtain ⟨G, ds, R, j, hd, hs, kk⟩ := h
    refine ⟨G, H, G, startD N.length ds, _, Gr.refl j, start_ok hd, vc ds R hs, ⟨?_, ?_, ?_, ?_, ?_⟩⟩
    · exact fun σ δ G2 H2 q g _ s2 => kk _ .non [] G2 H2 q g (.sh .non) Fresh.nil
    · exact fun σ δ G2 H2 q g _ s2 => q.elim
    · exact fun σ δ G2 H2 q g _ s2 => q.elim
    · exact fun d v G2 H2 q g _ hd => kk _ v [] G2 H2 q g (.sh hd) Fresh.nil
    · exact fun o v f G2 H2 q g _ h2 n2 m2 => kk o v f G2 H2 q g h2 ⟨n2, m2⟩
end
def oCall (S : FO) (ra : DA) : OE := fun δ Q => ra δ fun ds => S ds Q
theorem liftCO {K : PySem.W.Frag} {B : Bx} {S : FO} {ra : DA} {σ : L2.St} {H : Hp} {P : VK} (q : liftW K B (oCall S ra) σ H P) : liftA K B ra σ H fun vs H1 => spO K B S vs H1 P E0 := by
  obtain ⟨H0, G, δ, Q, j, st, hr, k⟩ := q
  refine ⟨H0, G, δ, _, j, st, hr, fun ds vs G2 H2 q2 g2 h2 => ?_⟩
  exact ⟨G2, ds, Q, g2.j, h2, q2, fun o v f G3 H3 q3 g3 h3 f3 => k o v f G3 H3 q3 (g2.trans g3) h3 (f3.back g2)⟩
section
variable {X : Cx} {B : Bx} {e o : Expr} {es : List Expr} {r : DE} {pos : Pos} {C k k' i : Nat} {S : FO} {ra : DA} {m : Str} {g : Addr}
theorem po_callD {x : Str} {st : Stmt} {ps : List Str} {fp : Pos} (T : DefAt X.K X.mg x st ps) (F : FnOk X.prog X.w X.K X.mg X.base CX0 k T.f T.fd ps (spO X.K B S)) (hr : Room k' X.A) (hk : k ≤ k') (hg : Gl X x) (ha : PAD X B (e :: es) ra) (hd : (x == ("__debug__" : Str)) = false := by decide) (he : starEach (e :: es) X.env = (false, eval e X.env) :: starEach es X.env := by rfl) (hpl : (backTo pos (starEach es X.env)).any (·.1) = false := by rfl) :
    PO X B (.Call (.Name x fp) (e :: es) [] pos) (oCall S ra) :=
  pe_mono (pe_call (E := E0) F (hr.mono hk) hg T.at_ T.fn.kp T.bd .nil pass0 ha hd he hpl) fun σ H P q => by
    obtain ⟨H0, G, δ, Q, j, st, h1, k⟩ := liftCO q
    exact ⟨H0, G, δ, Q, j, st, h1, fun ds vs G2 H2 q2 g2 h2 => by
      show spO X.K B S (vs ++ []) H2 P E0
      rw [List.append_nil]
      exact k ds vs G2 H2 q2 g2 h2⟩
end
end DL
namespace DL
open PySem PySem.Spec PyProof.Rows L2 Evl
/-! what is one's own, read for a while -/
section
variable {X : Cx} {B : Bx} {e : Expr} {r : DE} {t : DT} {pos : Pos}
theorem unlock_all {pins : List (Addr × Obj)} {σ : L2.St} {s : Shared} {H L : Hp} : ∀ (f : List Addr) {H2 : Hp}, Inv X pins σ H2 s → f.Nodup → (∀ p ∈ f, (∃ vs, H p = some (.lst vs) ∧ L p = some (.lst vs)) ∨ ∃ u od, H p = some u ∧ L p = some (.frz od u)) → (∀ p ∈ f, H2 p = L p) → (∀ p ∈ f, ∀ o' u', X.H_0 p ≠ some (.frz o' u')) →
    ∃ U, Inv X pins σ U s ∧ (∀ p ∈ f, U p = H p) ∧ ∀ p, p ∉ f → U p = H2 p
  | [], H2, I, _, _, _, _ => ⟨H2, I, fun _ z => (nomatch z), fun _ _ => rfl⟩
  | p :: f, H2, I, nd, hk, h2, nf => by
    have hp : p ∉ f := (List.nodup_cons.mp nd).1
    obtain ⟨U, I1, u1, u2⟩ := unlock_all f I (List.nodup_cons.mp nd).2 (fun q hq => hk q (List.mem_cons_of_mem _ hq)) (fun q hq => h2 q (List.mem_cons_of_mem _ hq)) fun q hq => nf q (List.mem_cons_of_mem _ hq)
    have e1 : U p = L p := (u2 p hp).trans (h2 p List.mem_cons_self)
    rcases hk p List.mem_cons_self with ⟨vs, a, b⟩ | ⟨u, od, a, b⟩
    · refine ⟨U, I1, fun q hq => ?_, fun q hq => u2 q fun z => hq (List.mem_cons_of_mem _ z)⟩
      rcases List.mem_cons.mp hq with rfl | hq
      · rw [e1, b, a]
      · exact u1 q hq
    · refine ⟨_, I1.unlock (e1.trans b) (nf p List.mem_cons_self), fun q hq => ?_, fun q hq => ?_⟩
      · by_cases e : q = p
        · subst e
          rw [upd_same, a]
        · rw [upd_ne e]
          exact u1 q ((List.mem_cons.mp hq).resolve_left e)
      · rw [upd_ne fun e => hq (by rw [e]; exact List.mem_cons_self)]
        exact u2 q fun z => hq (List.mem_cons_of_mem _ z)
theorem lkd_kinds {G H L : Hp} {f : List Addr} (l : Lkd H L f) (h : ∀ p ∈ f, Node G H p) : ∀ p ∈ f, (∃ vs, H p = some (.lst vs) ∧ L p = some (.lst vs)) ∨ ∃ u od, H p = some u ∧ L p = some (.frz od u) := fun p hp => by
  rcases (h p hp).2 with ⟨vs, a⟩ | ⟨vs, a⟩ | ⟨vs, a⟩
  · exact .inl ⟨vs, a, l.lst p vs a⟩
  · obtain ⟨od, b⟩ := l.dK p vs hp a
    exact .inr ⟨_, od, a, b⟩
  · obtain ⟨od, b⟩ := l.dT p vs hp a
    exact .inr ⟨_, od, a, b⟩
theorem bor_core {pins : List (Addr × Obj)} {σ : L2.St} {s : Shared} {H0 G H : Hp} {δ : DS} {i : Nat} {v : V} {o : OD} (I : Inv X pins σ H s) (j : Jn X.K B G H) (st : StOk X.K B H0 G H σ δ) (h1 : δ[i]? = some (some (.ow v o))) :
    ∃ G1 L, Inv X pins σ L s ∧ Jn X.K B G1 L ∧ StOk X.K B H0 G1 L σ (δ.set i (some (.sh o.toD))) ∧ ∀ s2 G2 H2, Inv X pins σ H2 s2 → Gr X.K B G1 L G2 H2 → ∃ U, Inv X pins σ U s2 ∧ Gr X.K B G H G U := by
  obtain ⟨F, y⟩ := st.ex
  obtain ⟨e1, e2, e3, e4⟩ := y.ow h1
  obtain ⟨L, I2, l⟩ := lock_all (F i) I e3
  have hG : ∀ p ∈ F i, G p = none := fun p hp => (e2.node p hp).1
  have ex := frz_ex (G := G) (H := L) hG
  have nb : B.b ∉ F i := fun z => (e4 _ z).2 rfl
  have kinds := lkd_kinds l fun p hp => e2.node p hp
  have nf : ∀ p ∈ F i, ∀ o' u', X.H_0 p ≠ some (.frz o' u') := fun p hp => by
    rcases (e2.node p hp).2 with ⟨vs, a⟩ | ⟨vs, a⟩ | ⟨vs, a⟩
    · exact I.nofrz a trivial
    · exact I.nofrz a trivial
    · exact I.nofrz a trivial
  refine ⟨frzG G L (F i), L, I2, ⟨fun a u h => ?_, ?_, ?_⟩, ?_, fun s2 G2 H2 J g => ?_⟩
  · unfold frzG at h
    split at h
    · exact h
    · rename_i hn
      rw [l.out a hn]
      exact j.ex a u h
  · unfold frzG
    rw [if_neg nb]
    exact j.no
  · obtain ⟨a, b, c, ns, h1, h2, h3⟩ := j.bag
    exact ⟨a, b, c, ns, by rw [l.out _ nb]; exact h1, ex_l ex h2, h3⟩
  · have s3 := y.put (i := i) (List.getElem?_eq_some_iff.mp e1).1 ex (H2 := L) (fun p _ _ hp => ⟨l.out p hp, by unfold frzG; rw [if_neg hp]⟩) (.sh (e2.dat hG l fun p hp => hp)) fun p hp => nomatch hp
    rw [set_same e1] at s3
    exact ⟨_, s3⟩
  · have h2 : ∀ p ∈ F i, H2 p = L p := fun p hp => by
      rcases kinds p hp with ⟨vs, _, b⟩ | ⟨u, od, _, b⟩
      · rw [b]; exact g.keep p _ (e4 p hp).2 b
      · rw [b]; exact g.keep p _ (e4 p hp).2 b
    obtain ⟨U, J2, u1, u2⟩ := unlock_all (H := H) (L := L) (F i) J e3 kinds h2 nf
    have keep : ∀ a o, a ≠ B.b → H a = some o → U a = some o := fun a o n h => by
      by_cases ha : a ∈ F i
      · rw [u1 a ha]; exact h
      · rw [u2 a ha]
        exact g.keep a o n ((l.out a ha).trans h)
    refine ⟨U, J2, Ex.refl G, keep, ⟨fun a o h => ?_, j.no, ?_⟩, fun _ _ => rfl⟩
    · exact keep a o (fun e => by subst e; rw [j.no] at h; cases h) (j.ex a o h)
    · obtain ⟨_, _, _, ns, _, h2, _, _, _, _, h7, h8⟩ := j.bag
      obtain ⟨a, b, c, _, h1, _, h3, h4, h5, h6, _, _⟩ := g.j.bag
      exact ⟨a, b, c, ns, by rw [u2 _ nb]; exact h1, h2, h3, h4, h5, h6, h7, h8⟩
def tBor (i : Nat) (t : DT) : DT := fun δ Q => ownO δ[i]? fun _ o => t (δ.set i (some (.sh o.toD))) Q
theorem ptd_bor (i : Nat) (h : PTD X B e t) : PTD X B e (tBor i t) := ⟨fun pins s σ H P I q => by
  obtain ⟨H0, G, δ, Q, j, st, hr, k⟩ := q
  have hr : ownO δ[i]? fun _ o => t (δ.set i (some (.sh o.toD))) Q := hr
  unfold ownO at hr
  split at hr
  · rename_i v o h1
    obtain ⟨G1, L, I2, j1, s1, back⟩ := bor_core I j st h1
    refine thn (h.run pins s σ L (fun b H2 => ∃ G2, Q b ∧ Gr X.K B G1 L G2 H2) I2 ⟨H0, G1, _, Q, j1, s1, hr, fun b G2 H2 q2 g2 => ⟨G2, q2, g2⟩⟩) fun b s2 ⟨H2, J, G2, q2, g2⟩ => ?_
    obtain ⟨U, J2, g3⟩ := back s2 G2 H2 J g2
    exact ⟨U, J2, k b G U q2 g3⟩
  · exact hr.elim⟩
def scal : D → Bool
  | .non => true
  | .bl _ => true
  | .int _ => true
  | .str _ => true
  | _ => false
theorem scal_dat {K : PySem.W.Frag} {G G2 : Hp} {v : V} {d : D} (h : Dat K B G v d) (s : scal d = true) : Dat K B G2 v d := by
  cases h with
  | non => exact .non
  | bl b => exact .bl b
  | int i => exact .int i
  | str x => exact .str x
  | _ => cases s
def dBor (i : Nat) (r : DE) : DE := fun δ Q => ownO δ[i]? fun _ o => r (δ.set i (some (.sh o.toD))) fun d => scal d = true ∧ Q d
theorem pd_bor (i : Nat) (h : PD X B e r) : PD X B e (dBor i r) := ⟨fun pins s σ H P I q => by
  obtain ⟨H0, G, δ, Q, j, st, hr, k⟩ := q
  have hr : ownO δ[i]? fun _ o => r (δ.set i (some (.sh o.toD))) fun d => scal d = true ∧ Q d := hr
  unfold ownO at hr
  split at hr
  · rename_i v o h1
    obtain ⟨G1, L, I2, j1, s1, back⟩ := bor_core I j st h1
    refine thn (h.run pins s σ L (fun x H2 => ∃ G2 d, (scal d = true ∧ Q d) ∧ Gr X.K B G1 L G2 H2 ∧ Dat X.K B G2 x d) I2 ⟨H0, G1, _, _, j1, s1, hr, fun d x G2 H2 q2 g2 h2 => ⟨G2, d, q2, g2, h2⟩⟩) fun u s2 ⟨x, H2, J, r2, G2, d, q2, g2, h2⟩ => ?_
    obtain ⟨U, J2, g3⟩ := back s2 G2 H2 J g2
    exact ⟨x, U, J2, r2, k d x G U q2.2 g3 (scal_dat h2 q2.1)⟩
  · exact hr.elim⟩
theorem z_tBor {δ : DS} {i : Nat} {Q : Bool → Prop} : tBor i t δ Q = ownO δ[i]? fun _ o => t (δ.set i (some (.sh o.toD))) Q := propext Iff.rfl
def scD (d : D) (Q : D → Prop) : Prop := scal d = true ∧ Q d
theorem z_dBor {δ : DS} {i : Nat} {Q : D → Prop} : dBor i r δ Q = ownO δ[i]? fun _ o => r (δ.set i (some (.sh o.toD))) fun d => scD d Q := propext Iff.rfl
theorem z_scN {Q : D → Prop} : scD .non Q = Q .non := by unfold scD; simp [scal]
theorem z_scB {Q : D → Prop} {b : Bool} : scD (.bl b) Q = Q (.bl b) := by unfold scD; simp [scal]
theorem z_scI {Q : D → Prop} {b : Int} : scD (.int b) Q = Q (.int b) := by unfold scD; simp [scal]
theorem z_scS {Q : D → Prop} {b : Str} : scD (.str b) Q = Q (.str b) := by unfold scD; simp [scal]
end
/-! places within a tree -/
def getO : OD → List Nat → Option OD
  | o, [] => some o
  | .lst xs, k :: π => match xs[k]? with
    | some x => getO x π
    | none => none
  | .dic _ ks, k :: π => match ks[k]? with
    | some z => getO z.2 π
    | none => none
  | .sh _, _ :: _ => none
def setO : OD → List Nat → OD → OD
  | _, [], s => s
  | .lst xs, k :: π, s => match xs[k]? with
    | some x => .lst (xs.set k (setO x π s))
    | none => .lst xs
  | .dic t ks, k :: π, s => match ks[k]? with
    | some z => .dic t (ks.set k (z.1, setO z.2 π s))
    | none => .dic t ks
  | .sh d, _ :: _, _ => .sh d
def locV (H : Hp) : V → List Nat → Option V
  | v, [] => some v
  | .ref p, k :: π => match H p with
    | some (.lst vs) => match vs[k]? with
      | some u => locV H u π
      | none => none
    | some (.dK vs) => match vs[k]? with
      | some u => locV H u.2 π
      | none => none
    | some (.dT vs) => match vs[k]? with
      | some u => locV H u.2 π
      | none => none
    | _ => none
  | _, _ :: _ => none
section
variable {K : PySem.W.Frag} {B : Bx} {G H : Hp}
theorem Owns.at : ∀ {vs : List V} {xs : List OD} {f : List Addr} {k : Nat} {x : OD}, Owns K B G H vs xs f → xs[k]? = some x → ∃ u f1 fk f2, vs[k]? = some u ∧ f = f1 ++ (fk ++ f2) ∧ Own K B G H u x fk ∧
    ∀ {G2 H2 : Hp} {x' : OD} {u' : V} {fk' : List Addr}, Ex G G2 → Kept G H G2 H2 f1 → Kept G H G2 H2 f2 → Own K B G2 H2 u' x' fk' → Owns K B G2 H2 (vs.set k u') (xs.set k x') (f1 ++ (fk' ++ f2))
  | _, _, _, 0, _, .cons (v := v) (f := f) (g := g) h t, e => by
    cases e
    exact ⟨v, [], f, g, rfl, rfl, h, fun ex _ k2 h2 => by rw [List.nil_append]; exact .cons h2 (t.keep ex k2)⟩
  | _, _, _, k + 1, x, .cons (v := v) (f := f) (vs := vs) (os := os) h t, e => by
    obtain ⟨u, f1, fk, f2, a1, a2, a3, a4⟩ := Owns.at (k := k) (x := x) t e
    refine ⟨u, f ++ f1, fk, f2, a1, by rw [a2, List.append_assoc], a3, fun ex k1 k2 h2 => ?_⟩
    have z := Owns.cons (h.keep ex k1.l) (a4 ex k1.r k2 h2)
    rw [List.append_assoc]
    exact z
theorem OwnK.at : ∀ {vs : List (Key × V)} {xs : List (D × OD)} {f : List Addr} {k : Nat} {d : D} {x : OD}, OwnK K B G H vs xs f → xs[k]? = some (d, x) → ∃ key u f1 fk f2, vs[k]? = some (key, u) ∧ f = f1 ++ (fk ++ f2) ∧ Own K B G H u x fk ∧ ((∃ i, key = .inl i ∧ d = .int i) ∨ ∃ s, key = .inr s ∧ d = .str s) ∧
    ∀ {G2 H2 : Hp} {x' : OD} {u' : V} {fk' : List Addr}, Ex G G2 → Kept G H G2 H2 f1 → Kept G H G2 H2 f2 → Own K B G2 H2 u' x' fk' → OwnK K B G2 H2 (vs.set k (key, u')) (xs.set k (d, x')) (f1 ++ (fk' ++ f2))
  | _, _, _, 0, _, _, .consI (i := i) (v := v) (f := f) (g := g) h t, e => by
    cases e
    exact ⟨_, v, [], f, g, rfl, rfl, h, .inl ⟨i, rfl, rfl⟩, fun ex _ k2 h2 => by rw [List.nil_append]; exact .consI h2 (t.keep ex k2)⟩
  | _, _, _, 0, _, _, .consS (x := i) (v := v) (f := f) (g := g) h t, e => by
    cases e
    exact ⟨_, v, [], f, g, rfl, rfl, h, .inr ⟨i, rfl, rfl⟩, fun ex _ k2 h2 => by rw [List.nil_append]; exact .consS h2 (t.keep ex k2)⟩
  | _, _, _, k + 1, d, x, .consI (i := i) (v := v) (f := f) h t, e => by
    obtain ⟨key, u, f1, fk, f2, a1, a2, a3, a5, a4⟩ := OwnK.at (k := k) (d := d) (x := x) t e
    refine ⟨key, u, f ++ f1, fk, f2, a1, by rw [a2, List.append_assoc], a3, a5, fun ex k1 k2 h2 => ?_⟩
    have z := OwnK.consI (i := i) (h.keep ex k1.l) (a4 ex k1.r k2 h2)
    rw [List.append_assoc]
    exact z
  | _, _, _, k + 1, d, x, .consS (x := i) (v := v) (f := f) h t, e => by
    obtain ⟨key, u, f1, fk, f2, a1, a2, a3, a5, a4⟩ := OwnK.at (k := k) (d := d) (x := x) t e
    refine ⟨key, u, f ++ f1, fk, f2, a1, by rw [a2, List.append_assoc], a3, a5, fun ex k1 k2 h2 => ?_⟩
    have z := OwnK.consS (x := i) (h.keep ex k1.l) (a4 ex k1.r k2 h2)
    rw [List.append_assoc]
    exact z
theorem OwnT.at : ∀ {vs : List (List Key × V)} {xs : List (D × OD)} {f : List Addr} {k : Nat} {d : D} {x : OD}, OwnT K B G H vs xs f → xs[k]? = some (d, x) → ∃ key u f1 fk f2, vs[k]? = some (key, u) ∧ f = f1 ++ (fk ++ f2) ∧ Own K B G H u x fk ∧ d = embT key ∧
    ∀ {G2 H2 : Hp} {x' : OD} {u' : V} {fk' : List Addr}, Ex G G2 → Kept G H G2 H2 f1 → Kept G H G2 H2 f2 → Own K B G2 H2 u' x' fk' → OwnT K B G2 H2 (vs.set k (key, u')) (xs.set k (d, x')) (f1 ++ (fk' ++ f2))
  | _, _, _, 0, _, _, .cons (k := i) (v := v) (f := f) (g := g) h t, e => by
    cases e
    exact ⟨_, v, [], f, g, rfl, rfl, h, rfl, fun ex _ k2 h2 => by rw [List.nil_append]; exact .cons h2 (t.keep ex k2)⟩
  | _, _, _, k + 1, d, x, .cons (k := i) (v := v) (f := f) h t, e => by
    obtain ⟨key, u, f1, fk, f2, a1, a2, a3, a5, a4⟩ := OwnT.at (k := k) (d := d) (x := x) t e
    refine ⟨key, u, f ++ f1, fk, f2, a1, by rw [a2, List.append_assoc], a3, a5, fun ex k1 k2 h2 => ?_⟩
    have z := OwnT.cons (k := i) (h.keep ex k1.l) (a4 ex k1.r k2 h2)
    rw [List.append_assoc]
    exact z
theorem set_get {α : Type} : ∀ {l : List α} {k : Nat} {a : α}, l[k]? = some a → l.set k a = l
  | _ :: _, 0, _, e => by cases e; rfl
  | x :: l, k + 1, a, e => by rw [List.set_cons_succ, set_get (l := l) (k := k) (a := a) e]
/-- the part's own places replaced within all of them -/
theorem nodup_mid {p : Addr} {f1 fk f2 fk' : List Addr} {fs : List Addr} (nd : (p :: (f1 ++ (fk ++ f2))).Nodup) (nk : fk'.Nodup) (h : ∀ q ∈ fk', q ∈ fs ∨ q ∈ fk) (hs : ∀ q ∈ fs, q ∈ fk ∨ q ∉ (p :: (f1 ++ (fk ++ f2)))) : (p :: (f1 ++ (fk' ++ f2))).Nodup := by
  obtain ⟨n0, n1⟩ := List.nodup_cons.mp nd
  obtain ⟨a1, a2, a3⟩ := List.nodup_append.mp n1
  obtain ⟨b1, b2, b3⟩ := List.nodup_append.mp a2
  have key : ∀ q ∈ fk', q ∈ fk ∨ q ∉ (p :: (f1 ++ (fk ++ f2))) := fun q hq => (h q hq).elim (hs q) .inl
  refine List.nodup_cons.mpr ⟨fun z => ?_, List.nodup_append.mpr ⟨a1, List.nodup_append.mpr ⟨nk, b2, fun x hx y hy e => ?_⟩, fun x hx y hy e => ?_⟩⟩
  · rcases List.mem_append.mp z with z | z
    · exact n0 (List.mem_append_left _ z)
    · rcases List.mem_append.mp z with z | z
      · rcases key p z with q | q
        · exact n0 (List.mem_append_right _ (List.mem_append_left _ q))
        · exact q List.mem_cons_self
      · exact n0 (List.mem_append_right _ (List.mem_append_right _ z))
  · subst e
    rcases key x hx with q | q
    · exact b3 x q x hy rfl
    · exact q (List.mem_cons_of_mem _ (List.mem_append_right _ (List.mem_append_right _ hy)))
  · subst e
    rcases List.mem_append.mp hy with hy | hy
    · rcases key x hy with q | q
      · exact a3 x hx x (List.mem_append_left _ q) rfl
      · exact q (List.mem_cons_of_mem _ (List.mem_append_left _ hx))
    · exact a3 x hx x (List.mem_append_right _ hy) rfl
def Focus (K : PySem.W.Frag) (B : Bx) (G H : Hp) (v : V) (o : OD) (f : List Addr) (π : List Nat) (s : OD) : Prop :=
  ∃ u fs, locV H v π = some u ∧ Own K B G H u s fs ∧ fs.Nodup ∧ (∀ p ∈ fs, p ∈ f) ∧
    ∀ {G2 H2 : Hp} {s' : OD} {fs' : List Addr}, Ex G G2 → (∀ p ∈ f, p ∉ fs → H2 p = H p ∧ G2 p = G p) → Own K B G2 H2 u s' fs' → fs'.Nodup → (∀ p ∈ fs', p ∈ fs ∨ p ∉ f) → ∃ f', Own K B G2 H2 v (setO o π s') f' ∧ f'.Nodup ∧ ∀ p ∈ f', p ∈ fs' ∨ p ∈ f
theorem focus : ∀ (π : List Nat) {v : V} {o s : OD} {f : List Addr}, Own K B G H v o f → f.Nodup → getO o π = some s → Focus K B G H v o f π s
  | [], v, o, s, f, h, nd, e => by
    have e : some o = some s := by cases o <;> exact e
    cases e
    exact ⟨v, f, (by cases v <;> rfl), h, nd, fun p hp => hp, fun {G2 H2 s' fs'} _ _ h2 n2 h3 => ⟨fs', (by have : setO o [] s' = s' := (by cases o <;> rfl); rw [this]; exact h2), n2, fun p hp => .inl hp⟩⟩
  | k :: π, _, .sh _, s, f, h, nd, e => nomatch e
  | k :: π, _, .lst xs, s, _, .lst (p := p) (vs := vs) (f := f) a1 a2 a3, nd, e => by
    have e : (match xs[k]? with | some x => getO x π | none => none) = some s := e
    cases hx : xs[k]? with
    | none => rw [hx] at e; cases e
    | some x =>
      rw [hx] at e
      obtain ⟨u, f1, fk, f2, b1, b2, b3, b4⟩ := a3.at hx
      subst b2
      have nk : fk.Nodup := (List.nodup_append.mp (List.nodup_append.mp (List.nodup_cons.mp nd).2).2.1).1
      obtain ⟨w, fs, c1, c2, c3, c4, c5⟩ := focus π b3 nk e
      refine ⟨w, fs, ?_, c2, c3, fun q hq => List.mem_cons_of_mem _ (List.mem_append_right _ (List.mem_append_left _ (c4 q hq))), fun {G2 H2 s' fs'} ex kp h2 n2 h3 => ?_⟩
      · show (match H p with | some (.lst vs) => _ | some (.dK vs) => _ | some (.dT vs) => _ | _ => none) = _
        rw [a1]
        show (match vs[k]? with | some u => locV H u π | none => none) = _
        rw [b1]
        exact c1
      · have dis : ∀ q, q ∈ fs → q ≠ p ∧ q ∉ f1 ∧ q ∉ f2 := fun q hq => by
          have hk := c4 q hq
          obtain ⟨n0, n1⟩ := List.nodup_cons.mp nd
          obtain ⟨_, m2, m3⟩ := List.nodup_append.mp n1
          obtain ⟨_, _, m4⟩ := List.nodup_append.mp m2
          exact ⟨fun z => n0 (by rw [← z]; exact List.mem_append_right _ (List.mem_append_left _ hk)), fun z => m3 q z q (List.mem_append_left _ hk) rfl, fun z => m4 q hk q z rfl⟩
        obtain ⟨fk', d1, d2, d3⟩ := c5 ex (fun q hq hn => kp q (List.mem_cons_of_mem _ (List.mem_append_right _ (List.mem_append_left _ hq))) hn) h2 n2 fun q hq => (h3 q hq).imp id fun z z2 => z (List.mem_cons_of_mem _ (List.mem_append_right _ (List.mem_append_left _ z2)))
        have k1 : Kept G H G2 H2 f1 := fun q hq => kp q (List.mem_cons_of_mem _ (List.mem_append_left _ hq)) fun z => (dis q z).2.1 hq
        have k2 : Kept G H G2 H2 f2 := fun q hq => kp q (List.mem_cons_of_mem _ (List.mem_append_right _ (List.mem_append_right _ hq))) fun z => (dis q z).2.2 hq
        have k0 := kp p List.mem_cons_self fun z => (dis p z).1 rfl
        have z := b4 ex k1 k2 d1
        rw [set_get b1] at z
        refine ⟨p :: (f1 ++ (fk' ++ f2)), ?_, nodup_mid nd d2 d3 fun q hq => (h3 q hq).imp (c4 q) id, fun q hq => ?_⟩
        · have es : setO (.lst xs) (k :: π) s' = .lst (xs.set k (setO x π s')) := by
            show (match xs[k]? with | some x => OD.lst (xs.set k (setO x π s')) | none => OD.lst xs) = _
            rw [hx]
          rw [es]
          exact .lst (k0.1.trans a1) (k0.2.trans a2) z
        · rcases List.mem_cons.mp hq with rfl | hq
          · exact .inr List.mem_cons_self
          · rcases List.mem_append.mp hq with hq | hq
            · exact .inr (List.mem_cons_of_mem _ (List.mem_append_left _ hq))
            · rcases List.mem_append.mp hq with hq | hq
              · exact (d3 q hq).imp id fun z => List.mem_cons_of_mem _ (List.mem_append_right _ (List.mem_append_left _ z))
              · exact .inr (List.mem_cons_of_mem _ (List.mem_append_right _ (List.mem_append_right _ hq)))
  | k :: π, _, .dic false xs, s, _, .dK (p := p) (kvs := vs) (f := f) a1 a2 a3, nd, e => by
    have e : (match xs[k]? with | some x => getO x.2 π | none => none) = some s := e
    cases hx : xs[k]? with
    | none => rw [hx] at e; cases e
    | some x =>
      obtain ⟨kd, x⟩ := x
      rw [hx] at e
      obtain ⟨key, u, f1, fk, f2, b1, b2, b3, _, b4⟩ := a3.at hx
      subst b2
      have nk : fk.Nodup := (List.nodup_append.mp (List.nodup_append.mp (List.nodup_cons.mp nd).2).2.1).1
      obtain ⟨w, fs, c1, c2, c3, c4, c5⟩ := focus π b3 nk e
      refine ⟨w, fs, ?_, c2, c3, fun q hq => List.mem_cons_of_mem _ (List.mem_append_right _ (List.mem_append_left _ (c4 q hq))), fun {G2 H2 s' fs'} ex kp h2 n2 h3 => ?_⟩
      · show (match H p with | some (.lst vs) => _ | some (.dK vs) => _ | some (.dT vs) => _ | _ => none) = _
        rw [a1]
        show (match vs[k]? with | some u => locV H u.2 π | none => none) = _
        rw [b1]
        exact c1
      · have dis : ∀ q, q ∈ fs → q ≠ p ∧ q ∉ f1 ∧ q ∉ f2 := fun q hq => by
          have hk := c4 q hq
          obtain ⟨n0, n1⟩ := List.nodup_cons.mp nd
          obtain ⟨_, m2, m3⟩ := List.nodup_append.mp n1
          obtain ⟨_, _, m4⟩ := List.nodup_append.mp m2
          exact ⟨fun z => n0 (by rw [← z]; exact List.mem_append_right _ (List.mem_append_left _ hk)), fun z => m3 q z q (List.mem_append_left _ hk) rfl, fun z => m4 q hk q z rfl⟩
        obtain ⟨fk', d1, d2, d3⟩ := c5 ex (fun q hq hn => kp q (List.mem_cons_of_mem _ (List.mem_append_right _ (List.mem_append_left _ hq))) hn) h2 n2 fun q hq => (h3 q hq).imp id fun z z2 => z (List.mem_cons_of_mem _ (List.mem_append_right _ (List.mem_append_left _ z2)))
        have k1 : Kept G H G2 H2 f1 := fun q hq => kp q (List.mem_cons_of_mem _ (List.mem_append_left _ hq)) fun z => (dis q z).2.1 hq
        have k2 : Kept G H G2 H2 f2 := fun q hq => kp q (List.mem_cons_of_mem _ (List.mem_append_right _ (List.mem_append_right _ hq))) fun z => (dis q z).2.2 hq
        have k0 := kp p List.mem_cons_self fun z => (dis p z).1 rfl
        have z := b4 ex k1 k2 d1
        rw [set_get b1] at z
        refine ⟨p :: (f1 ++ (fk' ++ f2)), ?_, nodup_mid nd d2 d3 fun q hq => (h3 q hq).imp (c4 q) id, fun q hq => ?_⟩
        · have es : setO (.dic false xs) (k :: π) s' = .dic false (xs.set k (kd, setO x π s')) := by
            show (match xs[k]? with | some x => OD.dic false (xs.set k (x.1, setO x.2 π s')) | none => OD.dic false xs) = _
            rw [hx]
          rw [es]
          exact .dK (k0.1.trans a1) (k0.2.trans a2) z
        · rcases List.mem_cons.mp hq with rfl | hq
          · exact .inr List.mem_cons_self
          · rcases List.mem_append.mp hq with hq | hq
            · exact .inr (List.mem_cons_of_mem _ (List.mem_append_left _ hq))
            · rcases List.mem_append.mp hq with hq | hq
              · exact (d3 q hq).imp id fun z => List.mem_cons_of_mem _ (List.mem_append_right _ (List.mem_append_left _ z))
              · exact .inr (List.mem_cons_of_mem _ (List.mem_append_right _ (List.mem_append_right _ hq)))
  | k :: π, _, .dic true xs, s, _, .dT (p := p) (kvs := vs) (f := f) a1 a2 a3, nd, e => by
    have e : (match xs[k]? with | some x => getO x.2 π | none => none) = some s := e
    cases hx : xs[k]? with
    | none => rw [hx] at e; cases e
    | some x =>
      obtain ⟨kd, x⟩ := x
      rw [hx] at e
      obtain ⟨key, u, f1, fk, f2, b1, b2, b3, _, b4⟩ := a3.at hx
      subst b2
      have nk : fk.Nodup := (List.nodup_append.mp (List.nodup_append.mp (List.nodup_cons.mp nd).2).2.1).1
      obtain ⟨w, fs, c1, c2, c3, c4, c5⟩ := focus π b3 nk e
      refine ⟨w, fs, ?_, c2, c3, fun q hq => List.mem_cons_of_mem _ (List.mem_append_right _ (List.mem_append_left _ (c4 q hq))), fun {G2 H2 s' fs'} ex kp h2 n2 h3 => ?_⟩
      · show (match H p with | some (.lst vs) => _ | some (.dK vs) => _ | some (.dT vs) => _ | _ => none) = _
        rw [a1]
        show (match vs[k]? with | some u => locV H u.2 π | none => none) = _
        rw [b1]
        exact c1
      · have dis : ∀ q, q ∈ fs → q ≠ p ∧ q ∉ f1 ∧ q ∉ f2 := fun q hq => by
          have hk := c4 q hq
          obtain ⟨n0, n1⟩ := List.nodup_cons.mp nd
          obtain ⟨_, m2, m3⟩ := List.nodup_append.mp n1
          obtain ⟨_, _, m4⟩ := List.nodup_append.mp m2
          exact ⟨fun z => n0 (by rw [← z]; exact List.mem_append_right _ (List.mem_append_left _ hk)), fun z => m3 q z q (List.mem_append_left _ hk) rfl, fun z => m4 q hk q z rfl⟩
        obtain ⟨fk', d1, d2, d3⟩ := c5 ex (fun q hq hn => kp q (List.mem_cons_of_mem _ (List.mem_append_right _ (List.mem_append_left _ hq))) hn) h2 n2 fun q hq => (h3 q hq).imp id fun z z2 => z (List.mem_cons_of_mem _ (List.mem_append_right _ (List.mem_append_left _ z2)))
        have k1 : Kept G H G2 H2 f1 := fun q hq => kp q (List.mem_cons_of_mem _ (List.mem_append_left _ hq)) fun z => (dis q z).2.1 hq
        have k2 : Kept G H G2 H2 f2 := fun q hq => kp q (List.mem_cons_of_mem _ (List.mem_append_right _ (List.mem_append_right _ hq))) fun z => (dis q z).2.2 hq
        have k0 := kp p List.mem_cons_self fun z => (dis p z).1 rfl
        have z := b4 ex k1 k2 d1
        rw [set_get b1] at z
        refine ⟨p :: (f1 ++ (fk' ++ f2)), ?_, nodup_mid nd d2 d3 fun q hq => (h3 q hq).imp (c4 q) id, fun q hq => ?_⟩
        · have es : setO (.dic true xs) (k :: π) s' = .dic true (xs.set k (kd, setO x π s')) := by
            show (match xs[k]? with | some x => OD.dic true (xs.set k (x.1, setO x.2 π s')) | none => OD.dic true xs) = _
            rw [hx]
          rw [es]
          exact .dT (k0.1.trans a1) (k0.2.trans a2) z
        · rcases List.mem_cons.mp hq with rfl | hq
          · exact .inr List.mem_cons_self
          · rcases List.mem_append.mp hq with hq | hq
            · exact .inr (List.mem_cons_of_mem _ (List.mem_append_left _ hq))
            · rcases List.mem_append.mp hq with hq | hq
              · exact (d3 q hq).imp id fun z => List.mem_cons_of_mem _ (List.mem_append_right _ (List.mem_append_left _ z))
              · exact .inr (List.mem_cons_of_mem _ (List.mem_append_right _ (List.mem_append_right _ hq)))
end
end DL
namespace DL
open PySem PySem.Spec PyProof.Rows L2 Evl
/-! a place of what is one's own, told by an expression -/
abbrev DR := DS → (Nat → List Nat → Prop) → Prop
def liftR (K : PySem.W.Frag) (B : Bx) (ρ : DR) : TE := fun σ H P => ∃ (H0 G : Hp) (δ : DS) (Q : Nat → List Nat → Prop), Jn K B G H ∧ StOk K B H0 G H σ δ ∧ ρ δ Q ∧ ∀ i π v0 v G2 H2, Q i π → Gr K B G H G2 H2 → σ[i]? = some (some v0) → locV H2 v0 π = some v → P v H2
abbrev PR (X : Cx) (B : Bx) (e : Expr) (ρ : DR) : Prop := PE X e (liftR X.K B ρ)
def getS (δ : DS) (i : Nat) (π : List Nat) : Option OD := match δ[i]? with
  | some (some (.ow _ o)) => getO o π
  | _ => none
def putS (δ : DS) (i : Nat) (π : List Nat) (s : OD) : DS := match δ[i]? with
  | some (some (.ow v o)) => δ.set i (some (.ow v (setO o π s)))
  | _ => δ
theorem getS_at {δ : DS} {i : Nat} {π : List Nat} {s : OD} (h : getS δ i π = some s) : ∃ v o, δ[i]? = some (some (.ow v o)) ∧ getO o π = some s := by
  unfold getS at h
  split at h
  · exact ⟨_, _, by assumption, h⟩
  · cases h
theorem putS_at {δ : DS} {i : Nat} {π : List Nat} {v : V} {o : OD} (h : δ[i]? = some (some (.ow v o))) (s : OD) : putS δ i π s = δ.set i (some (.ow v (setO o π s))) := by
  unfold putS
  rw [h]
def lstAt (δ : DS) (i : Nat) (π : List Nat) (K : List OD → Prop) : Prop := match getS δ i π with
  | some (.lst xs) => K xs
  | _ => False
def dicAt (δ : DS) (i : Nat) (π : List Nat) (K : Bool → List (D × OD) → Prop) : Prop := match getS δ i π with
  | some (.dic t ks) => K t ks
  | _ => False
theorem lstAt_at {δ : DS} {i : Nat} {π : List Nat} {K : List OD → Prop} (h : lstAt δ i π K) : ∃ xs, getS δ i π = some (.lst xs) ∧ K xs := by
  unfold lstAt at h
  split at h
  · exact ⟨_, by assumption, h⟩
  · exact h.elim
theorem dicAt_at {δ : DS} {i : Nat} {π : List Nat} {K : Bool → List (D × OD) → Prop} (h : dicAt δ i π K) : ∃ t ks, getS δ i π = some (.dic t ks) ∧ K t ks := by
  unfold dicAt at h
  split at h
  · exact ⟨_, _, by assumption, h⟩
  · exact h.elim
section
variable {K : PySem.W.Frag} {B : Bx} {G H H0 : Hp} {σ : L2.St} {δ : DS}
theorem loc_keep {H2 : Hp} : ∀ (π : List Nat) {v : V} {o s : OD} {f : List Addr}, Own K B G H v o f → getO o π = some s → (∀ p ∈ f, H2 p = H p) → locV H2 v π = locV H v π
  | [], v, _, _, _, _, _, _ => by cases v <;> rfl
  | k :: π, _, .sh _, s, f, h, e, _ => nomatch e
  | k :: π, _, .lst xs, s, _, .lst (p := p) (vs := vs) (f := f) a1 a2 a3, e, hk => by
    have e : (match xs[k]? with | some x => getO x π | none => none) = some s := e
    cases hx : xs[k]? with
    | none => rw [hx] at e; cases e
    | some x =>
      rw [hx] at e
      obtain ⟨u, f1, fk, f2, b1, b2, b3, _⟩ := a3.at hx
      subst b2
      have ih := loc_keep π b3 e fun q hq => hk q (List.mem_cons_of_mem _ (List.mem_append_right _ (List.mem_append_left _ hq)))
      show (match H2 p with | some (.lst vs) => (match vs[k]? with | some u => locV H2 u π | none => none) | some (.dK vs) => _ | some (.dT vs) => _ | _ => none) = (match H p with | some (.lst vs) => (match vs[k]? with | some u => locV H u π | none => none) | some (.dK vs) => _ | some (.dT vs) => _ | _ => none)
      rw [hk p List.mem_cons_self, a1]
      show (match vs[k]? with | some u => locV H2 u π | none => none) = (match vs[k]? with | some u => locV H u π | none => none)
      rw [b1]
      exact ih
  | k :: π, _, .dic false xs, s, _, .dK (p := p) (kvs := vs) (f := f) a1 a2 a3, e, hk => by
    have e : (match xs[k]? with | some x => getO x.2 π | none => none) = some s := e
    cases hx : xs[k]? with
    | none => rw [hx] at e; cases e
    | some x =>
      obtain ⟨kd, x⟩ := x
      rw [hx] at e
      obtain ⟨key, u, f1, fk, f2, b1, b2, b3, _⟩ := a3.at hx
      subst b2
      have ih := loc_keep π b3 e fun q hq => hk q (List.mem_cons_of_mem _ (List.mem_append_right _ (List.mem_append_left _ hq)))
      show (match H2 p with | some (.lst vs) => _ | some (.dK vs) => (match vs[k]? with | some u => locV H2 u.2 π | none => none) | some (.dT vs) => _ | _ => none) = (match H p with | some (.lst vs) => _ | some (.dK vs) => (match vs[k]? with | some u => locV H u.2 π | none => none) | some (.dT vs) => _ | _ => none)
      rw [hk p List.mem_cons_self, a1]
      show (match vs[k]? with | some u => locV H2 u.2 π | none => none) = (match vs[k]? with | some u => locV H u.2 π | none => none)
      rw [b1]
      exact ih
  | k :: π, _, .dic true xs, s, _, .dT (p := p) (kvs := vs) (f := f) a1 a2 a3, e, hk => by
    have e : (match xs[k]? with | some x => getO x.2 π | none => none) = some s := e
    cases hx : xs[k]? with
    | none => rw [hx] at e; cases e
    | some x =>
      obtain ⟨kd, x⟩ := x
      rw [hx] at e
      obtain ⟨key, u, f1, fk, f2, b1, b2, b3, _⟩ := a3.at hx
      subst b2
      have ih := loc_keep π b3 e fun q hq => hk q (List.mem_cons_of_mem _ (List.mem_append_right _ (List.mem_append_left _ hq)))
      show (match H2 p with | some (.lst vs) => _ | some (.dK vs) => _ | some (.dT vs) => (match vs[k]? with | some u => locV H2 u.2 π | none => none) | _ => none) = (match H p with | some (.lst vs) => _ | some (.dK vs) => _ | some (.dT vs) => (match vs[k]? with | some u => locV H u.2 π | none => none) | _ => none)
      rw [hk p List.mem_cons_self, a1]
      show (match vs[k]? with | some u => locV H2 u.2 π | none => none) = (match vs[k]? with | some u => locV H u.2 π | none => none)
      rw [b1]
      exact ih
/-- the place that was told, later: it is where it was, and what stands there may be changed -/
theorem StOk.place {i : Nat} {π : List Nat} {v0 v : V} {s : OD} {G2 H2 : Hp} (st : StOk K B H0 G H σ δ) (hs : getS δ i π = some s) (h0 : σ[i]? = some (some v0)) (hv : locV H v0 π = some v) (g : Gr K B G H G2 H2) :
    ∃ fs, Own K B G2 H2 v s fs ∧ fs.Nodup ∧ (∀ p ∈ fs, H0 p = none ∧ p ≠ B.b) ∧ locV H2 v0 π = some v ∧
      ∀ p ho s' fs', p ∈ fs → Own K B G2 (upd H2 p ho) v s' fs' → fs'.Nodup → (∀ q ∈ fs', q ∈ fs) → StOk K B H0 G2 (upd H2 p ho) σ (putS δ i π s') := by
  obtain ⟨w, o, h1, h2⟩ := getS_at hs
  obtain ⟨F, y⟩ := st.ex
  obtain ⟨e1, e2, e3, e4⟩ := y.ow h1
  rw [h0] at e1
  cases e1
  have y2 := y.gr g
  obtain ⟨e1, c2, _, _⟩ := y2.ow h1
  obtain ⟨u, fs, a1, a2, a3, a4, a5⟩ := focus π c2 e3 h2
  have kp : ∀ p ∈ F i, H2 p = H p := fun p hp => by
    have n := e2.node p hp
    cases q : H p with
    | none => exact absurd q n.at.ne
    | some ob => exact g.keep p ob (e4 p hp).2 q
  have hl := loc_keep (H2 := H2) π e2 h2 kp
  rw [hl, hv] at a1
  cases a1
  refine ⟨fs, a2, a3, fun p hp => e4 p (a4 p hp), hl.trans hv, fun p ho s' fs' hp hw nd hf => ?_⟩
  obtain ⟨f', d1, d2, d3⟩ := a5 (Ex.refl G2) (fun q hq hn => ⟨upd_ne fun z => hn (z ▸ hp), rfl⟩) hw nd fun q hq => .inl (hf q hq)
  rw [putS_at h1]
  have all : ∀ q ∈ f', q ∈ F i := fun q hq => (d3 q hq).elim (fun z => a4 q (hf q z)) id
  have z := y2.put (i := i) (List.getElem?_eq_some_iff.mp e1).1 (Ex.refl G2) (H2 := upd H2 p ho) (fun q _ _ hq => ⟨upd_ne fun e => hq (e ▸ a4 p hp), rfl⟩) (.ow d1 d2 fun q hq => e4 q (all q hq)) fun q hq => .inr (all q hq)
  rw [set_same e1] at z
  exact ⟨_, z⟩
end
section
variable {X : Cx} {B : Bx} {e o i : Expr} {r ri : DE} {ρ : DR} {pos : Pos}
def rVar (i : Nat) : DR := fun δ Q => ownO δ[i]? fun _ _ => Q i []
theorem pr_var {k : Nat} (h : PE X e (tVar k)) : PR X B e (rVar k) := pe_mono h fun σ H P q => by
  obtain ⟨H0, G, δ, Q, j, st, hr, kk⟩ := q
  have hr : ownO δ[k]? fun _ _ => Q k [] := hr
  unfold ownO at hr
  split at hr
  · rename_i v o h1
    obtain ⟨F, y⟩ := st.ex
    have e1 := (y.ow h1).1
    exact ⟨v, e1, kk k [] v v G H hr (Gr.refl j) e1 (by cases v <;> rfl)⟩
  · exact hr.elim
def ixR (d : D) (n : Nat) (K : Nat → Prop) : Prop := match d with
  | .int k => (0 ≤ k ∧ k < n) ∧ K k.toNat
  | _ => False
/-- x[i] -/
def rIx (ρ : DR) (ri : DE) : DR := fun δ Q => ρ δ fun i π => ri δ fun d => lstAt δ i π fun xs => ixR d xs.length fun n => Q i (π ++ [n])
theorem loc_app {H : Hp} : ∀ (π : List Nat) {v u : V} {p : Addr} {vs : List V} {k : Nat} {w : V}, locV H v π = some u → u = .ref p → H p = some (.lst vs) → vs[k]? = some w → locV H v (π ++ [k]) = some w
  | [], v, u, p, vs, k, w, h, hu, hp, hk => by
    have h : some v = some u := by cases v <;> exact h
    cases h
    subst hu
    show (match H p with | some (.lst vs) => (match vs[k]? with | some u => locV H u [] | none => none) | some (.dK vs) => _ | some (.dT vs) => _ | _ => none) = _
    rw [hp]
    show (match vs[k]? with | some u => locV H u [] | none => none) = _
    rw [hk]
    cases w <;> rfl
  | n :: π, v, u, p, vs, k, w, h, hu, hp, hk => by
    cases v with
    | ref a =>
      have h : (match H a with | some (.lst vs) => (match vs[n]? with | some u => locV H u π | none => none) | some (.dK vs) => (match vs[n]? with | some u => locV H u.2 π | none => none) | some (.dT vs) => (match vs[n]? with | some u => locV H u.2 π | none => none) | _ => none) = some u := h
      show (match H a with | some (.lst vs) => (match vs[n]? with | some u => locV H u (π ++ [k]) | none => none) | some (.dK vs) => (match vs[n]? with | some u => locV H u.2 (π ++ [k]) | none => none) | some (.dT vs) => (match vs[n]? with | some u => locV H u.2 (π ++ [k]) | none => none) | _ => none) = _
      split at h
      · split at h
        · exact loc_app π h hu hp hk
        · cases h
      · split at h
        · exact loc_app π h hu hp hk
        · cases h
      · split at h
        · exact loc_app π h hu hp hk
        · cases h
      · cases h
    | _ => cases h
theorem pr_ix (ho : PR X B o ρ) (hi : PD X B i ri) (hs : PlainIx i := by intro _ _; rfl) : PR X B (.Subscript o i pos) (rIx ρ ri) := pe_mono (pe_ix ix_list ho hi hs) fun σ H P q => by
  obtain ⟨H0, G, δ, Q, j, st, hr, k⟩ := q
  refine ⟨H0, G, δ, _, j, st, hr, fun i π v0 v G2 H2 q2 g2 h0 hv => ?_⟩
  refine ⟨H0, G2, δ, _, g2.j, st.gr g2, q2, fun d u G3 H3 q3 g3 h3 => ?_⟩
  obtain ⟨xs, hx, q3⟩ := lstAt_at q3
  cases h3 with
  | int n =>
    obtain ⟨⟨n0, n1⟩, q3⟩ := q3
    obtain ⟨fs, a1, a2, a3, a4, _⟩ := (st.gr g2).place hx h0 hv g3
    cases a1 with
    | @lst p vs _ f b1 b2 b3 =>
      have hl : n.toNat < vs.length := by rw [b3.len]; omega
      have hk : vs[n.toNat]? = some vs[n.toNat] := List.getElem?_eq_getElem hl
      exact ⟨p, vs, n, _, rfl, rfl, sq_of b1, atI_q n0 hk, k i _ v0 _ G3 H3 q3 (g2.trans g3) h0 (loc_app π a4 rfl b1 hk)⟩
  | _ => exact q3.elim
/-- x.append(e), at a place -/
def dAppR (ρ : DR) (r : DE) : DTS := fun W δ => ρ δ fun i π => lstAt δ i π fun xs => r δ fun d => xs.length < sizeLine ∧ W.nx (putS δ i π (.lst (xs ++ [.sh d])))
theorem psd_appR {apos cpos : Pos} (ho : PR X B o ρ) (he : PD X B e r)
    (hbase : attributeBase o "append" X.env (eval o X.env) = eval o X.env := by rfl)
    (hfew : ((backTo cpos (starEach [e] X.env)).all (fun x => !x.1) && (backToKw cpos (keywordEach [] X.env)).all (fun x => x.1.isSome) && decide ([e].length + ([] : List Keyword).length + (if ([] : List Keyword).isEmpty then 0 else 1) < 30)) = true := by rfl)
    (hline : (apos.endLine == cpos.line) = true := by rfl) (hs : starEach [e] X.env = (false, eval e X.env) :: starEach [] X.env := by rfl) (hplain : (backTo cpos (starEach [] X.env)).any (·.1) = false := by rfl)
    (hsw : swapsWith (.Call (.Attribute o "append" apos) [e] [] cpos) none pos.line X.env = pure false := by rfl) :
    PSD X B (.Expr (.Call (.Attribute o "append" apos) [e] [] cpos) pos) (dAppR ρ r) := ps_mono (ps_expr (pe_bm PySem.F.plainAttrs_list PySem.F.slot_list_append PySem.F.type_list_append mt_append ho (pa_cons he pa_nil hs) hbase hfew hline hs hplain) hsw) fun E σ H q => by
  obtain ⟨G0, H0, G, δ, W, g0, st, h, k⟩ := q
  refine ⟨H0, G, δ, _, g0.j, st, h, fun i π v0 v G2 H2 q2 g2 h0 hv => ?_⟩
  obtain ⟨xs, hx, q2⟩ := lstAt_at q2
  obtain ⟨_, a1, _⟩ := (st.gr g2).place hx h0 hv (Gr.refl g2.j)
  cases a1 with
  | @lst p vs _ f b1 b2 b3 =>
    refine ⟨.inl ⟨rfl, vs, sq_of b1⟩, H0, G2, δ, _, g2.j, st.gr g2, q2, fun d u G3 H3 q3 g3 h3 => ?_⟩
    obtain ⟨fs, c1, c2, c3, _, c5⟩ := (st.gr g2).place hx h0 hv g3
    cases c1 with
    | @lst _ vs' _ f' d1 d2 d3 =>
      refine ⟨p, vs', u, rfl, rfl, d1, by rw [d3.len]; exact q3.1, ?_⟩
      have hp := c3 p List.mem_cons_self
      have np := (List.nodup_cons.mp c2).1
      refine k.nx _ _ _ _ q3.2 (((g0.trans g2).trans g3).own hp.1 d2 hp.2) (g2.ex.trans g3.ex) (c5 p _ _ (p :: f') List.mem_cons_self (.lst upd_same d2 ?_) c2 fun q hq => hq)
      have c4 := (d3.past (ho := .lst (vs' ++ [u])) np).append (Owns.cons (H := upd H3 p (.lst (vs' ++ [u]))) (.sh h3) .nil)
      rw [List.append_nil, List.append_nil] at c4
      exact c4
theorem Owns.store {K : PySem.W.Frag} {G H : Hp} {vs : List V} {xs : List OD} {f : List Addr} {p : Addr} {n : Nat} {u : V} {d : D} {hob : HO} (h : Owns K B G H vs xs f) (hn : n < xs.length) (nd : (p :: f).Nodup) (hd : Dat K B G u d) :
    ∃ f', Owns K B G (upd H p hob) (vs.set n u) (xs.set n (.sh d)) f' ∧ (p :: f').Nodup ∧ ∀ q ∈ f', q ∈ f := by
  obtain ⟨w, f1, fk, f2, a1, a2, a3, a4⟩ := h.at (List.getElem?_eq_getElem hn)
  subst a2
  obtain ⟨n0, n1⟩ := List.nodup_cons.mp nd
  have kept : ∀ {g : List Addr}, (∀ q ∈ g, q ∈ f1 ++ (fk ++ f2)) → Kept G H G (upd H p hob) g := fun hg q hq => ⟨upd_ne fun e => n0 (e ▸ hg q hq), rfl⟩
  have sub : ∀ q ∈ f1 ++ ([] ++ f2), q ∈ f1 ++ (fk ++ f2) := fun q hq => (List.mem_append.mp hq).elim (fun z => List.mem_append_left _ z) fun z => List.mem_append_right _ (List.mem_append_right _ z)
  refine ⟨f1 ++ ([] ++ f2), a4 (Ex.refl G) (kept fun q hq => List.mem_append_left _ hq) (kept fun q hq => List.mem_append_right _ (List.mem_append_right _ hq)) (.sh hd), List.nodup_cons.mpr ⟨fun z => n0 (sub _ z), ?_⟩, sub⟩
  obtain ⟨b1, b2, b3⟩ := List.nodup_append.mp n1
  obtain ⟨_, c2, _⟩ := List.nodup_append.mp b2
  exact List.nodup_append.mpr ⟨b1, c2, fun x hx y hy => b3 x hx y (List.mem_append_right _ hy)⟩
/-- x[i] = e, a list's item at a place -/
def dStoR (ρ : DR) (ri r : DE) : DTS := fun W δ => r δ fun d => ρ δ fun i π => ri δ fun kd => lstAt δ i π fun xs => ixR kd xs.length fun n => W.nx (putS δ i π (.lst (xs.set n (.sh d))))
theorem ixN_of {n : Nat} {k : Int} (h0 : 0 ≤ k) (h1 : k < n) : ixN n k = some k.toNat := by
  unfold ixN
  simp only [h0, if_true]
  first
  | rw [if_pos (by omega)]
  | (split <;> first | rfl | omega)
theorem psd_stoR {spos : Pos} (ho : PR X B o ρ) (hi : PD X B i ri) (he : PD X B e r)
    (ha : ∀ v, assign (.Subscript o i spos) X.env v = (do
      let ov ← holding [v] (eval o X.env)
      let iv ← holding [v, ov] (eval i X.env)
      standAt spos
      holding [v, ov, iv] (setItem ov iv v)
      release [v, ov, iv] []) := by intro _; rfl)
    (hs : swapsWithSole [.Subscript o i spos] e pos.line X.env = pure false := by rfl) (hw : swappedStores [.Subscript o i spos] e X.env = pure none := by rfl) (h1 : (assignEach [.Subscript o i spos] X.env).map (·.2) = [assign (.Subscript o i spos) X.env] := by rfl) :
    PSD X B (.Assign [.Subscript o i spos] e pos) (dStoR ρ ri r) := ps_mono (ps_asg he (pg_sub ho hi set_list ha) hs hw h1) fun E σ H q => by
  obtain ⟨G0, H0, G, δ, W, g0, st, h, k⟩ := q
  refine ⟨H0, G, δ, _, g0.j, st, h, fun d u G2 H2 q2 g2 h2 => ?_⟩
  refine ⟨H0, G2, δ, _, g2.j, st.gr g2, q2, fun i π v0 v G3 H3 q3 g3 h0 hv => ?_⟩
  refine ⟨H0, G3, δ, _, g3.j, (st.gr g2).gr g3, q3, fun kd w G4 H4 q4 g4 h4 => ?_⟩
  obtain ⟨xs, hx, q4⟩ := lstAt_at q4
  cases h4 with
  | int n =>
    obtain ⟨⟨n0, n1⟩, q4⟩ := q4
    obtain ⟨fs, c1, c2, c3, _, c5⟩ := ((st.gr g2).gr g3).place hx h0 hv g4
    cases c1 with
    | @lst p vs _ f d1 d2 d3 =>
      have hp := c3 p List.mem_cons_self
      obtain ⟨f', o1, o2, o3⟩ := d3.store (p := p) (n := n.toNat) (hob := .lst (vs.set n.toNat u)) (by omega) c2 (h2.mono (g3.ex.trans g4.ex))
      refine ⟨p, vs, n, n.toNat, rfl, rfl, d1, ixN_of n0 (by rw [d3.len]; exact n1), ?_⟩
      refine k.nx _ _ _ _ q4 ((((g0.trans g2).trans g3).trans g4).own hp.1 d2 hp.2) ((g2.ex.trans g3.ex).trans g4.ex) (c5 p _ _ (p :: f') List.mem_cons_self (.lst upd_same d2 o1) o2 fun q hq => ?_)
      rcases List.mem_cons.mp hq with rfl | hq
      · exact List.mem_cons_self
      · exact List.mem_cons_of_mem _ (o3 q hq)
  | _ => exact q4.elim
def shO (o : Option OD) (K : D → Prop) : Prop := match o with
  | some (.sh d) => K d
  | _ => False
/-- x[i] += e, whole numbers -/
def dAugR (ρ : DR) (ri r : DE) : DTS := fun W δ => ρ δ fun i π => ri δ fun kd => lstAt δ i π fun xs => ixR kd xs.length fun n => shO xs[n]? fun x => r δ fun y => oI (fun a b => .int (a + b)) x y fun z => W.nx (putS δ i π (.lst (xs.set n (.sh z))))
theorem psd_augR {spos : Pos} (ho : PR X B o ρ) (hi : PD X B i ri) (he : PD X B e r)
    (ha : ∀ ov iv new, augStore i ov iv new = (do holding [new, ov, iv] (setItem ov iv new); release [new, ov, iv] []; pure .next) := by intros; rfl) :
    PSD X B (.AugAssign (.Subscript o i spos) .Add e pos) (dAugR ρ ri r) := ps_mono (ps_augS ho hi get_list he ip_add set_list ha) fun E σ H q => by
  obtain ⟨G0, H0, G, δ, W, g0, st, h, k⟩ := q
  refine ⟨H0, G, δ, _, g0.j, st, h, fun i π v0 v G2 H2 q2 g2 h0 hv => ?_⟩
  refine ⟨H0, G2, δ, _, g2.j, st.gr g2, q2, fun kd w G3 H3 q3 g3 h3 => ?_⟩
  obtain ⟨xs, hx, q3⟩ := lstAt_at q3
  cases h3 with
  | int n =>
    obtain ⟨⟨n0, n1⟩, q3⟩ := q3
    obtain ⟨fs, c1, c2, c3, c4, c5⟩ := (st.gr g2).place hx h0 hv g3
    cases c1 with
    | @lst p vs _ f d1 d2 d3 =>
      have hn : n.toNat < xs.length := by omega
      have hl : n.toNat < vs.length := by rw [d3.len]; exact hn
      have q3 : (match xs[n.toNat]? with | some (.sh d) => _ | _ => False) := q3
      rw [List.getElem?_eq_getElem hn] at q3
      obtain ⟨w', f1, fk, f2, e1, _, e3, _⟩ := d3.at (List.getElem?_eq_getElem hn)
      cases hxn : xs[n.toNat] with
      | lst _ => rw [hxn] at q3; exact q3.elim
      | dic _ _ => rw [hxn] at q3; exact q3.elim
      | sh x =>
        rw [hxn] at q3 e3
        cases e3 with
        | sh hx' =>
          have en : n = ((n.toNat : Nat) : Int) := by omega
          refine ⟨p, vs, n.toNat, w', rfl, by rw [← en], sq_of d1, e1, ?_⟩
          refine ⟨H0, G3, δ, _, g3.j, (st.gr g2).gr g3, q3, fun y u G4 H4 q4 g4 h4 => ?_⟩
          cases hx' with
          | int a =>
            cases h4 with
            | int b =>
              obtain ⟨fs', c1', c2', c3', _, c5'⟩ := ((st.gr g2).gr g3).place hx h0 c4 g4
              cases c1' with
              | @lst _ vs' _ f' d1' d2' d3' =>
                have hp := c3' p List.mem_cons_self
                obtain ⟨f'', o1, o2, o3⟩ := d3'.store (p := p) (n := n.toNat) (u := .int (a + b)) (hob := .lst (vs'.set n.toNat (.int (a + b)))) hn c2' (.int (a + b))
                refine ⟨a, b, rfl, rfl, p, vs', n, n.toNat, rfl, rfl, d1', ixN_of n0 (by rw [d3'.len]; exact n1), ?_⟩
                refine k.nx _ _ _ _ q4 ((((g0.trans g2).trans g3).trans g4).own hp.1 d2' hp.2) ((g2.ex.trans g3.ex).trans g4.ex) (c5' p _ _ (p :: f'') List.mem_cons_self (.lst upd_same d2' o1) o2 fun q hq => ?_)
                rcases List.mem_cons.mp hq with rfl | hq
                · exact List.mem_cons_self
                · exact List.mem_cons_of_mem _ (o3 q hq)
            | _ => exact q4.elim
          | _ => cases h4 <;> exact q4.elim
  | _ => exact q3.elim
end
end DL
namespace DL
open PySem PySem.Spec PyProof.Rows L2 Evl
section
variable {X : Cx} {B : Bx} {e o a b c : Expr} {es : List Expr} {r ra rb : DE} {pos : Pos} {C k k' i : Nat} {S : FO} {rA : DA} {rao : OA} {m : Str} {g : Addr}
/-! methods that give what is one's own -/
def oMeth (C : Nat) (S : FO) (r : DE) (ra : DA) : OE := fun δ Q => r δ fun d => isO C d ∧ ra δ fun ds => S (d :: ds) Q
theorem po_meth {pl : Sem Bool} {apos : Pos} (c : SlX.SCls X.K (B.ct C)) (hm : Meth X.K (B.ct C) m g) (F : FnR X.prog X.w X.K X.mg X.base CX0 k g (spO X.K B S)) (hr : Room k X.A) (he : PD X B o r) (ha : PAD X B (e :: es) rA)
    (hst : starEach (e :: es) X.env = (false, eval e X.env) :: starEach es X.env := by rfl) (hpl : (backTo pos (starEach es X.env)).any (·.1) = false := by rfl)
    (ht : eval (.Call (.Attribute o m apos) (e :: es) [] pos) X.env = (do let ov ← eval o X.env; standAt apos.atName; let (f, first) ← holding [ov] (getMethod ov m pl); callWith pos f first (backTo pos (starEach (e :: es) X.env)) (backToKw pos (keywordEach [] X.env))) := by rfl) :
    PO X B (.Call (.Attribute o m apos) (e :: es) [] pos) (oMeth C S r rA) := pe_mono (SlX.pe_methSl (E := E0) he c hm F hr pass0 ha hst hpl ht) fun σ H P q => by
  obtain ⟨H0, G, δ, Q, j, st, hr, k⟩ := q
  refine ⟨H0, G, δ, _, j, st, hr, fun d v G2 H2 q2 g2 h2 => ?_⟩
  obtain ⟨ho, q2⟩ := q2
  cases h2 with
  | @obj a dx C' vs fs h3 h4 h5 =>
    have ho : C' = C := ho
    subst ho
    refine ⟨a, dx, vs.map some, rfl, obj_slt (K := X.K) (B := B) g2.j.ex h3 h4, H0, G2, δ, _, g2.j, st.gr g2, q2, fun ds ws G3 H3 q3 g3 h6 => ?_⟩
    exact ⟨G3, _, Q, g3.j, .cons ((Dat.obj h3 h4 h5).mono g3.ex) h6, q3, fun o v f G4 H4 q4 g4 h7 f7 => k o v f G4 H4 q4 ((g2.trans g3).trans g4) h7 (f7.back (g2.trans g3))⟩
  | _ => exact ho.elim
theorem po_meth0 {pl : Sem Bool} {apos : Pos} (c : SlX.SCls X.K (B.ct C)) (hm : Meth X.K (B.ct C) m g) (F : FnR X.prog X.w X.K X.mg X.base CX0 k g (spO X.K B S)) (hr : Room k X.A) (he : PD X B o r)
    (ht : eval (.Call (.Attribute o m apos) [] [] pos) X.env = (do let ov ← eval o X.env; standAt apos.atName; let (f, first) ← holding [ov] (getMethod ov m pl); callWith pos f first (backTo pos (starEach [] X.env)) (backToKw pos (keywordEach [] X.env))) := by rfl) :
    PO X B (.Call (.Attribute o m apos) [] [] pos) (oMeth C S r dNil) := pe_mono (SlX.pe_methSl0 (E := E0) he c hm F hr pass0 ht) fun σ H P q => by
  obtain ⟨H0, G, δ, Q, j, st, hr, k⟩ := q
  refine ⟨H0, G, δ, _, j, st, hr, fun d v G2 H2 q2 g2 h2 => ?_⟩
  obtain ⟨ho, q2⟩ := q2
  cases h2 with
  | @obj a dx C' vs fs h3 h4 h5 =>
    have ho : C' = C := ho
    subst ho
    exact ⟨a, dx, vs.map some, rfl, obj_slt (K := X.K) (B := B) g2.j.ex h3 h4, G2, _, Q, g2.j, .cons (.obj h3 h4 h5) .nil, q2, fun o v f G3 H3 q3 g3 h3 f3 => k o v f G3 H3 q3 (g2.trans g3) h3 (f3.back g2)⟩
  | _ => exact ho.elim
/-! new lists by operators -/
def fRep (ra rb : DE) : DA := fun δ Q => ra δ fun x => rb δ fun y => match x, y with
  | .lst xs, .int n => (-(2 ^ 63) ≤ n ∧ n < 2 ^ 63 ∧ xs.length * n.toNat ≤ sizeLine) ∧ Q (List.replicate n.toNat xs).flatten
  | _, _ => False
theorem pf_new {K : PySem.W.Frag} {G H G2 H2 : Hp} {p : Addr} {vs : List V} {ds : List D} {P : VK} {Q : List D → Prop} (k : ∀ ds p vs G2 H2, Q ds → Gr K B G H G2 H2 → H p = none → G2 p = none → H2 p = some (.lst vs) → Dats K B G2 vs ds → P (.ref p) H2) (g : Gr K B G H G2 H2) (hp : H2 p = none) (hd : Dats K B G2 vs ds) (q : Q ds) : P (.ref p) (upd H2 p (.lst vs)) :=
  k ds p vs G2 _ q (g.trans (Gr.new0 g.j hp)) (g.free hp) (fresh_back g.j.ex hp) upd_same hd
theorem pf_rep (ha : PD X B a ra) (hb : PD X B b rb) : PF X B (.BinOp a .Mult b pos) (fRep ra rb) := pe_mono (pe_op op_rep ha hb) fun σ H P q => by
  obtain ⟨H0, G, δ, Q, j, st, hr, k⟩ := q
  refine ⟨H0, G, δ, _, j, st, hr, fun x v G2 H2 q2 g2 h2 => ?_⟩
  refine ⟨H0, G2, δ, _, g2.j, st.gr g2, q2, fun y u G3 H3 q3 g3 h3 => ?_⟩
  cases h2 with
  | lst h4 h5 =>
    cases h3 with
    | int n =>
      obtain ⟨⟨n0, n1, n2⟩, q3⟩ := q3
      exact ⟨_, n, _, rfl, rfl, g3.j.ex _ _ (g3.ex _ _ h4), n0, n1, by rw [h5.len]; exact n2, fun p hp => pf_new k (g2.trans g3) hp ((h5.mono g3.ex).rep _) q3⟩
    | _ => exact q3.elim
  | _ => exact q3.elim
def fCat (ra rb : DE) : DA := fun δ Q => ra δ fun x => rb δ fun y => match x, y with
  | .lst xs, .lst ys => xs.length + ys.length ≤ sizeLine ∧ Q (xs ++ ys)
  | _, _ => False
theorem pf_cat (ha : PD X B a ra) (hb : PD X B b rb) : PF X B (.BinOp a .Add b pos) (fCat ra rb) := pe_mono (pe_op op_cat ha hb) fun σ H P q => by
  obtain ⟨H0, G, δ, Q, j, st, hr, k⟩ := q
  refine ⟨H0, G, δ, _, j, st, hr, fun x v G2 H2 q2 g2 h2 => ?_⟩
  refine ⟨H0, G2, δ, _, g2.j, st.gr g2, q2, fun y u G3 H3 q3 g3 h3 => ?_⟩
  cases h2 with
  | lst h4 h5 =>
    cases h3 with
    | lst h6 h7 => exact ⟨_, _, _, _, rfl, rfl, g3.j.ex _ _ (g3.ex _ _ h4), g3.j.ex _ _ h6, by rw [h5.len, h7.len]; exact q3.1, fun p hp => pf_new k (g2.trans g3) hp ((h5.mono g3.ex).append h7) q3.2⟩
    | _ => exact q3.elim
  | _ => exact q3.elim
/-- list(e) -/
def fList (ra : DA) : DA := fun δ Q => ra δ fun ds => match ds with
  | [.lst xs] => Q xs
  | [.tup xs] => Q xs
  | _ => False
theorem pf_list {p : Pos} (hg : Gl X "list") (hm : X.mg "list" = none) (ha : PAD X B [e] rA) (he : starEach [e] X.env = (false, eval e X.env) :: starEach [] X.env := by rfl) (hpl : (backTo pos (starEach [] X.env)).any (·.1) = false := by rfl) :
    PF X B (.Call (.Name "list" p) [e] [] pos) (fList rA) := pe_mono (pe_callTy call_list_of hg hm (by decide +kernel) ha (by decide) (by decide) he hpl) fun σ H P q => by
  obtain ⟨H0, G, δ, Q, j, st, hr, k⟩ := q
  refine ⟨H0, G, δ, _, j, st, hr, fun ds vs G2 H2 q2 g2 h2 => ?_⟩
  cases h2 with
  | nil => exact q2.elim
  | cons h3 h4 =>
    cases h4 with
    | cons _ _ => cases h3 <;> exact q2.elim
    | nil =>
      cases h3 with
      | lst h5 h6 => exact ⟨_, _, rfl, .inl (sq_of (g2.j.ex _ _ h5)), fun p hp => pf_new k g2 hp h6 q2⟩
      | tup h5 h6 => exact ⟨_, _, rfl, .inr (tx g2.j.ex h5), fun p hp => pf_new k g2 hp h6 q2⟩
      | _ => exact q2.elim
/-! a, b = e1, e2 and a, b, c = e1, e2, e3 where some are one's own -/
def slotOf (v : V) : OD → SD
  | .sh d => .sh d
  | o => .ow v o
theorem st_setF {K : PySem.W.Frag} {H0 G H : Hp} {σ : L2.St} {δ : DS} {i : Nat} {v : V} {o : OD} {f : List Addr} {F : Nat → List Addr} (y : StF K B H0 G H σ δ F) (hw : Own K B G H v o f) (nd : f.Nodup) (hf : ∀ p ∈ f, H0 p = none ∧ p ≠ B.b) (new : ∀ j, j < σ.length → ∀ p ∈ f, p ∉ F j) :
    ∃ F', StF K B H0 G H (σ.set i (some v)) (δ.set i (some (slotOf v o))) F' ∧ ∀ j, j < σ.length → ∀ p ∈ F' j, p ∈ f ∨ p ∈ F j := by
  have key : SlotOk K B H0 G H (some v) (some (slotOf v o)) f := by
    cases o with
    | sh d => cases hw with | sh h => exact .sh h
    | lst xs => exact .ow hw nd hf
    | dic t ks => exact .ow hw nd hf
  by_cases hi : i < σ.length
  · refine ⟨fun j => if j = i then f else F j, ⟨by rw [List.length_set, List.length_set]; exact y.len, fun j uv ud h1 h2 => ?_, fun a b ha hb hab p hp hq => ?_⟩, fun j _ p hp => ?_⟩
    · by_cases hj : i = j
      · subst hj
        rw [List.getElem?_set_self hi] at h1
        rw [List.getElem?_set_self (by rw [← y.len]; exact hi)] at h2
        cases h1
        cases h2
        rw [if_pos rfl]
        exact key
      · rw [List.getElem?_set_ne hj] at h1 h2
        rw [if_neg (Ne.symm hj)]
        exact y.at_ j uv ud h1 h2
    · rw [List.length_set] at ha hb
      by_cases h1 : a = i
      · rw [if_pos h1] at hp
        rw [if_neg fun z => hab (h1.trans z.symm)] at hq
        exact new b hb p hp hq
      · rw [if_neg h1] at hp
        by_cases h2 : b = i
        · rw [if_pos h2] at hq
          exact new a ha p hq hp
        · rw [if_neg h2] at hq
          exact y.dj a b ha hb hab p hp hq
    · have hp : p ∈ (if j = i then f else F j) := hp
      by_cases h : j = i
      · rw [if_pos h] at hp; exact .inl hp
      · rw [if_neg h] at hp; exact .inr hp
  · rw [set_out hi, set_out (by rw [← y.len]; exact hi)]
    exact ⟨F, y, fun j _ p hp => .inr hp⟩
theorem fresh_new {K : PySem.W.Frag} {H0 G H G2 H2 : Hp} {σ : L2.St} {δ : DS} {F : Nat → List Addr} {f : List Addr} (y : StF K B H0 G H σ δ F) (hf : Fresh B H f) : ∀ j, j < σ.length → ∀ p ∈ f, p ∉ F j := fun j hj p hp hq => by
  obtain ⟨ud, hud⟩ : ∃ ud, δ[j]? = some ud := ⟨δ[j]'(by rw [← y.len]; exact hj), List.getElem?_eq_getElem _⟩
  obtain ⟨uv, huv, q⟩ := y.get hud
  exact (q.at p hq).1.ne (hf.2 p hp).1
def dPar2 (i j : Nat) (ra : OA) : DTS := fun W δ => ra δ fun os => match os with
  | [x, y] => ∀ u v, W.nx ((δ.set i (some (slotOf u x))).set j (some (slotOf v y)))
  | _ => False
theorem psd_par2 {i j : Nat} {x y : Str} {px py pt : Pos} {kt k2 pt2} (hc : X.calm = true) (hN : X.N.Nodup) (hi : X.N[i]? = some x) (hj : X.N[j]? = some y) (hij : i ≠ j)
    (hx : X.env.scope.names.lookup x = some .local) (hy : X.env.scope.names.lookup y = some .local) (ha : PAO X B [a, b] rao)
    (hw : swappedStores [.Tuple [.Name x px, .Name y py] kt pt] (.Tuple [a, b] k2 pt2) X.env = pure (some [x, y]))
    (hs : swapsWithSole [.Tuple [.Name x px, .Name y py] kt pt] (.Tuple [a, b] k2 pt2) pos.line X.env = pure false := by rfl) :
    PSD X B (.Assign [.Tuple [.Name x px, .Name y py] kt pt] (.Tuple [a, b] k2 pt2) pos) (dPar2 i j rao) := ps_mono (ps_par hc hN hi hj hij hx hy ha hw hs) fun E σ H q => by
  obtain ⟨G0, H0, G, δ, W, g, s, h, k⟩ := q
  refine ⟨H0, G, δ, _, g.j, s, h, fun os vs f G2 H2 q2 g2 h2 f2 => ?_⟩
  cases h2 with
  | nil => exact q2.elim
  | @cons v1 o1 f1 _ _ _ h3 h4 =>
    cases h4 with
    | nil => exact q2.elim
    | @cons v2 o2 f2' _ _ _ h5 h6 =>
      cases h6 with
      | cons _ _ => exact q2.elim
      | nil =>
        have q2 : ∀ u v, W.nx ((δ.set i (some (slotOf u o1))).set j (some (slotOf v o2))) := q2
        rw [List.append_nil] at f2
        obtain ⟨n1, n2, n3⟩ := List.nodup_append.mp f2.1
        have a1 : ∀ p ∈ f1, H0 p = none ∧ p ≠ B.b := fun p hp => (f2.back g).2 p (List.mem_append_left _ hp)
        have a2 : ∀ p ∈ f2', H0 p = none ∧ p ≠ B.b := fun p hp => (f2.back g).2 p (List.mem_append_right _ hp)
        obtain ⟨F, y0⟩ := s.ex
        have y2 := y0.gr g2
        have nw := fresh_new (G2 := G2) (H2 := H2) y0 f2
        obtain ⟨F1, y3, s3⟩ := st_setF (i := i) y2 h3 n1 a1 fun l hl p hp => nw l hl p (List.mem_append_left _ hp)
        obtain ⟨F2, y4, _⟩ := st_setF (i := j) y3 h5 n2 a2 fun l hl p hp hq => by
          rw [List.length_set] at hl
          rcases s3 l hl p hq with z | z
          · exact n3 p z p hp rfl
          · exact nw l hl p (List.mem_append_right _ hp) z
        exact ⟨_, _, rfl, k.nx _ _ G2 H2 (q2 v1 v2) (g.trans g2) g2.ex ⟨F2, y4⟩⟩
def dPar3 (i j l : Nat) (ra : OA) : DTS := fun W δ => ra δ fun os => match os with
  | [x, y, z] => ∀ u v w, W.nx (((δ.set i (some (slotOf u x))).set j (some (slotOf v y))).set l (some (slotOf w z)))
  | _ => False
theorem psd_par3 {i j l : Nat} {x y z : Str} {px py pz pt : Pos} {kt k2 pt2} (hc : X.calm = true) (hN : X.N.Nodup) (hi : X.N[i]? = some x) (hj : X.N[j]? = some y) (hl : X.N[l]? = some z) (hij : i ≠ j) (hil : i ≠ l) (hjl : j ≠ l)
    (hx : X.env.scope.names.lookup x = some .local) (hy : X.env.scope.names.lookup y = some .local) (hz : X.env.scope.names.lookup z = some .local) (ha : PAO X B [a, b, c] rao)
    (hw : swappedStores [.Tuple [.Name x px, .Name y py, .Name z pz] kt pt] (.Tuple [a, b, c] k2 pt2) X.env = pure (some [x, y, z]))
    (hs : swapsWithSole [.Tuple [.Name x px, .Name y py, .Name z pz] kt pt] (.Tuple [a, b, c] k2 pt2) pos.line X.env = pure false := by rfl) :
    PSD X B (.Assign [.Tuple [.Name x px, .Name y py, .Name z pz] kt pt] (.Tuple [a, b, c] k2 pt2) pos) (dPar3 i j l rao) := ps_mono (ps_par3 hc hN hi hj hl hij hil hjl hx hy hz ha hw hs) fun E σ H q => by
  obtain ⟨G0, H0, G, δ, W, g, s, h, k⟩ := q
  refine ⟨H0, G, δ, _, g.j, s, h, fun os vs f G2 H2 q2 g2 h2 f2 => ?_⟩
  cases h2 with
  | nil => exact q2.elim
  | @cons v1 o1 f1 _ _ _ h3 h4 =>
    cases h4 with
    | nil => exact q2.elim
    | @cons v2 o2 f2' _ _ _ h5 h6 =>
      cases h6 with
      | nil => exact q2.elim
      | @cons v3 o3 f3' _ _ _ h7 h8 =>
        cases h8 with
        | cons _ _ => exact q2.elim
        | nil =>
          have q2 : ∀ u v w, W.nx (((δ.set i (some (slotOf u o1))).set j (some (slotOf v o2))).set l (some (slotOf w o3))) := q2
          rw [List.append_nil] at f2
          obtain ⟨n1, n2, n3⟩ := List.nodup_append.mp f2.1
          obtain ⟨m1, m2, m3⟩ := List.nodup_append.mp n2
          have a1 : ∀ p ∈ f1, H0 p = none ∧ p ≠ B.b := fun p hp => (f2.back g).2 p (List.mem_append_left _ hp)
          have a2 : ∀ p ∈ f2', H0 p = none ∧ p ≠ B.b := fun p hp => (f2.back g).2 p (List.mem_append_right _ (List.mem_append_left _ hp))
          have a3 : ∀ p ∈ f3', H0 p = none ∧ p ≠ B.b := fun p hp => (f2.back g).2 p (List.mem_append_right _ (List.mem_append_right _ hp))
          obtain ⟨F, y0⟩ := s.ex
          have y2 := y0.gr g2
          have nw := fresh_new (G2 := G2) (H2 := H2) y0 f2
          obtain ⟨F1, y3, s3⟩ := st_setF (i := i) y2 h3 n1 a1 fun l hl p hp => nw l hl p (List.mem_append_left _ hp)
          have y3b : ∀ l, l < (σ.set i (some v1)).length → l < σ.length := fun l hl => by rw [List.length_set] at hl; exact hl
          obtain ⟨F2, y4, s4⟩ := st_setF (i := j) y3 h5 m1 a2 fun l hl p hp hq => by
            rcases s3 l (y3b l hl) p hq with z | z
            · exact n3 p z p (List.mem_append_left _ hp) rfl
            · exact nw l (y3b l hl) p (List.mem_append_right _ (List.mem_append_left _ hp)) z
          obtain ⟨F3, y5, _⟩ := st_setF (i := l) y4 h7 m2 a3 fun l hl p hp hq => by
            rw [List.length_set] at hl
            rcases s4 l hl p hq with z | z
            · exact m3 p z p hp rfl
            · rcases s3 l (y3b l hl) p z with z | z
              · exact n3 p z p (List.mem_append_right _ hp) rfl
              · exact nw l (y3b l hl) p (List.mem_append_right _ (List.mem_append_right _ hp)) z
          exact ⟨_, _, _, rfl, k.nx _ _ G2 H2 (q2 v1 v2 v3) (g.trans g2) g2.ex ⟨F3, y5⟩⟩
end
end DL
namespace DL
open PySem PySem.Spec PyProof.Rows L2 Evl
/-! keys -/
def dk1 : D → Option Key
  | .int i => some (.inl i)
  | .str x => some (.inr x)
  | _ => none
def dkL : List D → Option (List Key)
  | [] => some []
  | d :: ds => match dk1 d, dkL ds with
    | some k, some ks => some (k :: ks)
    | _, _ => none
def dkT : D → Option (List Key)
  | .tup ds => dkL ds
  | _ => none
theorem dk1_emb (k : Key) : dk1 (embK k) = some k := by cases k <;> rfl
theorem dkL_emb : ∀ k : List Key, dkL (k.map embK) = some k
  | [] => rfl
  | a :: k => by rw [List.map_cons, dkL, dk1_emb, dkL_emb k]
theorem dkT_emb (k : List Key) : dkT (embT k) = some k := dkL_emb k
theorem emb_dk1 {d : D} {k : Key} (h : dk1 d = some k) : d = embK k := by
  cases d with
  | int i => cases h; rfl
  | str x => cases h; rfl
  | _ => cases h
theorem emb_dkL : ∀ {ds : List D} {k : List Key}, dkL ds = some k → ds = k.map embK
  | [], _, h => by cases h; rfl
  | d :: ds, k, h => by
    unfold dkL at h
    cases h1 : dk1 d with
    | none => rw [h1] at h; cases h
    | some a =>
      cases h2 : dkL ds with
      | none => rw [h1, h2] at h; cases h
      | some b =>
        rw [h1, h2] at h
        cases h
        rw [List.map_cons, ← emb_dk1 h1, ← emb_dkL h2]
theorem emb_dkT {d : D} {k : List Key} (h : dkT d = some k) : d = embT k := by
  cases d with
  | tup ds => exact congrArg D.tup (emb_dkL h)
  | _ => cases h
/-- two keys are one -/
def keqD (x y : D) : Bool := match dk1 x, dk1 y with
  | some a, some b => decide (a = b)
  | _, _ => match dkT x, dkT y with
    | some a, some b => decide (a = b)
    | _, _ => false
theorem keqD_K (a b : Key) : keqD (embK a) (embK b) = decide (a = b) := by unfold keqD; rw [dk1_emb, dk1_emb]
theorem keqD_T (a b : List Key) : keqD (embT a) (embT b) = decide (a = b) := by
  unfold keqD
  have h1 : dk1 (embT a) = none := rfl
  rw [h1, dkT_emb, dkT_emb]
def lookK {α : Type} (ks : List (D × α)) (y : D) : Option α := (ks.find? fun kv => keqD kv.1 y).map (·.2)
def putO {α : Type} (ks : List (D × α)) (y : D) (o : α) : List (D × α) := if (ks.any fun z => keqD z.1 y) = true then ks.map (fun z => if keqD z.1 y = true then (z.1, o) else z) else ks ++ [(y, o)]
def keyFit (t : Bool) (y : D) : Bool := if t then (dkT y).isSome else (dk1 y).isSome
section
variable {K : PySem.W.Frag} {B : Bx} {G H : Hp}
theorem keyV {v : V} {y : D} (h : Dat K B G v y) {k : Key} (e : dk1 y = some k) : v = kV k := by
  cases h with
  | int i => cases e; rfl
  | str x => cases e; rfl
  | _ => cases e
theorem keyVs : ∀ {vs : List V} {ds : List D} {k : List Key}, Dats K B G vs ds → dkL ds = some k → vs = k.map kV
  | _, _, _, .nil, e => by cases e; rfl
  | _, _, k, .cons (d := d) (ds := ds) h t, e => by
    unfold dkL at e
    cases h1 : dk1 d with
    | none => rw [h1] at e; cases e
    | some a =>
      cases h2 : dkL ds with
      | none => rw [h1, h2] at e; cases e
      | some b =>
        rw [h1, h2] at e
        cases e
        rw [List.map_cons, keyV h h1, keyVs t h2]
theorem keyT {v : V} {y : D} (h : Dat K B G v y) {k : List Key} (e : dkT y = some k) : ∃ b, v = .ref b ∧ G b = some (.tup (k.map kV)) := by
  cases h with
  | tup h1 h2 => exact ⟨_, rfl, by rw [h1, keyVs h2 e]⟩
  | _ => cases e
/-! a value in its place, or at the end -/
theorem OwnK.any {k : Key} : ∀ {vs : List (Key × V)} {xs : List (D × OD)} {f : List Addr}, OwnK K B G H vs xs f → (vs.any fun kv => decide (kv.1 = k)) = xs.any fun z => keqD z.1 (embK k)
  | _, _, _, .nil => rfl
  | _, _, _, .consI (i := i) _ t => by rw [List.any_cons, List.any_cons, OwnK.any t, show (D.int i) = embK (.inl i) from rfl, keqD_K]
  | _, _, _, .consS (x := i) _ t => by rw [List.any_cons, List.any_cons, OwnK.any t, show (D.str i) = embK (.inr i) from rfl, keqD_K]
theorem OwnT.any {k : List Key} : ∀ {vs : List (List Key × V)} {xs : List (D × OD)} {f : List Addr}, OwnT K B G H vs xs f → (vs.any fun kv => decide (kv.1 = k)) = xs.any fun z => keqD z.1 (embT k)
  | _, _, _, .nil => rfl
  | _, _, _, .cons (k := i) _ t => by rw [List.any_cons, List.any_cons, OwnT.any t]; exact congrArg (· || _) (keqD_T i k).symm
theorem nodup_sub {f g f' g' : List Addr} (nd : (f ++ g).Nodup) (n1 : f'.Nodup) (n2 : g'.Nodup) (h1 : ∀ p ∈ f', p ∈ f) (h2 : ∀ p ∈ g', p ∈ g) : (f' ++ g').Nodup := by
  obtain ⟨_, _, h⟩ := List.nodup_append.mp nd
  exact List.nodup_append.mpr ⟨n1, n2, fun a ha b hb => h a (h1 a ha) b (h2 b hb)⟩
theorem OwnK.repl {k : Key} {v : V} {d : D} {H2 : Hp} (hd : Dat K B G v d) : ∀ {vs : List (Key × V)} {xs : List (D × OD)} {f : List Addr}, OwnK K B G H vs xs f → f.Nodup → Kept G H G H2 f → ∃ f', OwnK K B G H2 (vs.map fun kv => if kv.1 = k then (kv.1, v) else kv) (xs.map fun z => if keqD z.1 (embK k) = true then (z.1, .sh d) else z) f' ∧ f'.Nodup ∧ ∀ p ∈ f', p ∈ f
  | _, _, _, .nil, _, _ => ⟨[], .nil, List.nodup_nil, fun _ h => h⟩
  | _, _, _, .consI (i := i) (v := w) (o := o) (f := f) (g := g) h t, nd, kp => by
    obtain ⟨nf, ng, _⟩ := List.nodup_append.mp nd
    obtain ⟨g', a1, a2, a3⟩ := OwnK.repl hd t ng kp.r
    have e := keqD_K (.inl i) k
    by_cases hk : (Sum.inl i : Key) = k
    · refine ⟨[] ++ g', ?_, a2, fun p hp => List.mem_append_right _ (a3 p hp)⟩
      rw [List.map_cons, List.map_cons, if_pos hk, if_pos (show keqD (D.int i) (embK k) = true from e.trans (decide_eq_true hk))]
      exact .consI (.sh hd) a1
    · refine ⟨f ++ g', ?_, nodup_sub nd nf a2 (fun _ h => h) a3, fun p hp => (List.mem_append.mp hp).elim (List.mem_append_left _) fun z => List.mem_append_right _ (a3 p z)⟩
      rw [List.map_cons, List.map_cons, if_neg hk, if_neg (show ¬ keqD (D.int i) (embK k) = true by rw [show (D.int i) = embK (.inl i) from rfl, e, decide_eq_false hk]; exact Bool.false_ne_true)]
      exact .consI (h.keep (Ex.refl G) kp.l) a1
  | _, _, _, .consS (x := i) (v := w) (o := o) (f := f) (g := g) h t, nd, kp => by
    obtain ⟨nf, ng, _⟩ := List.nodup_append.mp nd
    obtain ⟨g', a1, a2, a3⟩ := OwnK.repl hd t ng kp.r
    have e := keqD_K (.inr i) k
    by_cases hk : (Sum.inr i : Key) = k
    · refine ⟨[] ++ g', ?_, a2, fun p hp => List.mem_append_right _ (a3 p hp)⟩
      rw [List.map_cons, List.map_cons, if_pos hk, if_pos (show keqD (D.str i) (embK k) = true from e.trans (decide_eq_true hk))]
      exact .consS (.sh hd) a1
    · refine ⟨f ++ g', ?_, nodup_sub nd nf a2 (fun _ h => h) a3, fun p hp => (List.mem_append.mp hp).elim (List.mem_append_left _) fun z => List.mem_append_right _ (a3 p z)⟩
      rw [List.map_cons, List.map_cons, if_neg hk, if_neg (show ¬ keqD (D.str i) (embK k) = true by rw [show (D.str i) = embK (.inr i) from rfl, e, decide_eq_false hk]; exact Bool.false_ne_true)]
      exact .consS (h.keep (Ex.refl G) kp.l) a1
theorem OwnT.repl {k : List Key} {v : V} {d : D} {H2 : Hp} (hd : Dat K B G v d) : ∀ {vs : List (List Key × V)} {xs : List (D × OD)} {f : List Addr}, OwnT K B G H vs xs f → f.Nodup → Kept G H G H2 f → ∃ f', OwnT K B G H2 (vs.map fun kv => if kv.1 = k then (kv.1, v) else kv) (xs.map fun z => if keqD z.1 (embT k) = true then (z.1, .sh d) else z) f' ∧ f'.Nodup ∧ ∀ p ∈ f', p ∈ f
  | _, _, _, .nil, _, _ => ⟨[], .nil, List.nodup_nil, fun _ h => h⟩
  | _, _, _, .cons (k := i) (v := w) (o := o) (f := f) (g := g) h t, nd, kp => by
    obtain ⟨nf, ng, _⟩ := List.nodup_append.mp nd
    obtain ⟨g', a1, a2, a3⟩ := OwnT.repl hd t ng kp.r
    have e := keqD_T i k
    by_cases hk : i = k
    · refine ⟨[] ++ g', ?_, a2, fun p hp => List.mem_append_right _ (a3 p hp)⟩
      rw [List.map_cons, List.map_cons, if_pos hk, if_pos (show keqD (embT i) (embT k) = true from e.trans (decide_eq_true hk))]
      exact .cons (.sh hd) a1
    · refine ⟨f ++ g', ?_, nodup_sub nd nf a2 (fun _ h => h) a3, fun p hp => (List.mem_append.mp hp).elim (List.mem_append_left _) fun z => List.mem_append_right _ (a3 p z)⟩
      rw [List.map_cons, List.map_cons, if_neg hk, if_neg (show ¬ keqD (embT i) (embT k) = true by rw [e, decide_eq_false hk]; exact Bool.false_ne_true)]
      exact .cons (h.keep (Ex.refl G) kp.l) a1
theorem OwnK.snoc {k : Key} {v : V} {o : OD} {g : List Addr} (hd : Own K B G H v o g) : ∀ {vs : List (Key × V)} {xs : List (D × OD)} {f : List Addr}, OwnK K B G H vs xs f → OwnK K B G H (vs ++ [(k, v)]) (xs ++ [(embK k, o)]) (f ++ g)
  | _, _, _, .nil => by
    show OwnK K B G H [(k, v)] [(embK k, o)] g
    cases k with
    | inl i => exact (List.append_nil g) ▸ (OwnK.consI hd .nil)
    | inr i => exact (List.append_nil g) ▸ (OwnK.consS hd .nil)
  | _, _, _, .consI h t => by rw [List.append_assoc]; exact .consI h (OwnK.snoc hd t)
  | _, _, _, .consS h t => by rw [List.append_assoc]; exact .consS h (OwnK.snoc hd t)
theorem OwnT.snoc {k : List Key} {v : V} {o : OD} {g : List Addr} (hd : Own K B G H v o g) : ∀ {vs : List (List Key × V)} {xs : List (D × OD)} {f : List Addr}, OwnT K B G H vs xs f → OwnT K B G H (vs ++ [(k, v)]) (xs ++ [(embT k, o)]) (f ++ g)
  | _, _, _, .nil => by
    show OwnT K B G H [(k, v)] [(embT k, o)] g
    exact (List.append_nil g) ▸ (OwnT.cons hd .nil)
  | _, _, _, .cons h t => by rw [List.append_assoc]; exact .cons h (OwnT.snoc hd t)
theorem OwnK.len : ∀ {vs : List (Key × V)} {xs : List (D × OD)} {f : List Addr}, OwnK K B G H vs xs f → vs.length = xs.length
  | _, _, _, .nil => rfl
  | _, _, _, .consI _ t => by rw [List.length_cons, List.length_cons, OwnK.len t]
  | _, _, _, .consS _ t => by rw [List.length_cons, List.length_cons, OwnK.len t]
theorem OwnT.len : ∀ {vs : List (List Key × V)} {xs : List (D × OD)} {f : List Addr}, OwnT K B G H vs xs f → vs.length = xs.length
  | _, _, _, .nil => rfl
  | _, _, _, .cons _ t => by rw [List.length_cons, List.length_cons, OwnT.len t]
/-- d[y] = v, of a dict of one's own -/
theorem Own.dput {p : Addr} {t : Bool} {ks : List (D × OD)} {fs : List Addr} {u w : V} {y d : D} (h : Own K B G H (.ref p) (.dic t ks) fs) (nd : fs.Nodup) (jex : Ex G H) (hy : Dat K B G u y) (hd : Dat K B G w d) (hk : keyFit t y = true) (hz : ks.length < sizeLine) :
    ∃ ho fs', DPut H p u w (upd H p ho) ∧ p ∈ fs ∧ Own K B G (upd H p ho) (.ref p) (.dic t (putO ks y (.sh d))) fs' ∧ fs'.Nodup ∧ ∀ q ∈ fs', q ∈ fs := by
  cases h with
  | @dK _ kvs _ f h1 h2 h3 =>
    obtain ⟨n0, n1⟩ := List.nodup_cons.mp nd
    have hk : (dk1 y).isSome = true := hk
    obtain ⟨k, ek⟩ := Option.isSome_iff_exists.mp hk
    have eu := keyV hy ek
    have ey := emb_dk1 ek
    subst eu ey
    have kp : ∀ ho, Kept G H G (upd H p ho) f := fun ho q hq => ⟨upd_ne fun e => n0 (e ▸ hq), rfl⟩
    have an := OwnK.any (k := k) h3
    refine ⟨.dK (putK kvs k w), ?_⟩
    by_cases ha : (ks.any fun z => keqD z.1 (embK k)) = true
    · obtain ⟨f', a1, a2, a3⟩ := h3.repl (k := k) hd n1 (kp (.dK (putK kvs k w)))
      refine ⟨p :: f', DPut.k h1 (by rw [h3.len]; exact hz), List.mem_cons_self, .dK upd_same h2 ?_, List.nodup_cons.mpr ⟨fun z => n0 (a3 p z), a2⟩, fun q hq => (List.mem_cons.mp hq).elim (fun e => e ▸ List.mem_cons_self) fun z => List.mem_cons_of_mem _ (a3 q z)⟩
      unfold putK putO
      rw [if_pos ha, if_pos (an.trans ha)]
      unfold putK at a1
      rw [if_pos (an.trans ha)] at a1
      exact a1
    · refine ⟨p :: f, DPut.k h1 (by rw [h3.len]; exact hz), List.mem_cons_self, .dK upd_same h2 ?_, nd, fun q hq => hq⟩
      have z := OwnK.snoc (k := k) (o := .sh d) (.sh hd) (h3.keep (Ex.refl G) (kp (.dK (putK kvs k w))))
      rw [List.append_nil] at z
      unfold putK putO
      rw [if_neg ha, if_neg (by rw [an]; exact ha)]
      unfold putK at z
      rw [if_neg (by rw [an]; exact ha)] at z
      exact z
  | @dT _ kvs _ f h1 h2 h3 =>
    obtain ⟨n0, n1⟩ := List.nodup_cons.mp nd
    have hk : (dkT y).isSome = true := hk
    obtain ⟨k, ek⟩ := Option.isSome_iff_exists.mp hk
    obtain ⟨b, eu, eb⟩ := keyT hy ek
    have ey := emb_dkT ek
    subst eu ey
    have hb := jex _ _ eb
    have kp : ∀ ho, Kept G H G (upd H p ho) f := fun ho q hq => ⟨upd_ne fun e => n0 (e ▸ hq), rfl⟩
    have an := OwnT.any (k := k) h3
    have put : DPut H p (.ref b) w (upd H p (.dT (putK kvs k w))) := .inr ⟨kvs, k, b, h1, rfl, hb, by rw [h3.len]; exact hz, rfl⟩
    refine ⟨.dT (putK kvs k w), ?_⟩
    by_cases ha : (ks.any fun z => keqD z.1 (embT k)) = true
    · obtain ⟨f', a1, a2, a3⟩ := h3.repl (k := k) hd n1 (kp (.dT (putK kvs k w)))
      refine ⟨p :: f', put, List.mem_cons_self, .dT upd_same h2 ?_, List.nodup_cons.mpr ⟨fun z => n0 (a3 p z), a2⟩, fun q hq => (List.mem_cons.mp hq).elim (fun e => e ▸ List.mem_cons_self) fun z => List.mem_cons_of_mem _ (a3 q z)⟩
      unfold putK putO
      rw [if_pos ha, if_pos (an.trans ha)]
      unfold putK at a1
      rw [if_pos (an.trans ha)] at a1
      exact a1
    · refine ⟨p :: f, put, List.mem_cons_self, .dT upd_same h2 ?_, nd, fun q hq => hq⟩
      have z := OwnT.snoc (k := k) (o := .sh d) (.sh hd) (h3.keep (Ex.refl G) (kp (.dT (putK kvs k w))))
      rw [List.append_nil] at z
      unfold putK putO
      rw [if_neg ha, if_neg (by rw [an]; exact ha)]
      unfold putK at z
      rw [if_neg (by rw [an]; exact ha)] at z
      exact z
end
section
variable {X : Cx} {B : Bx} {e o i : Expr} {r ry : DE} {ρ : DR} {pos : Pos}
/-- x[k] = e, a dict at a place -/
def dDPutR (ρ : DR) (ry r : DE) : DTS := fun W δ => r δ fun d => ρ δ fun i π => ry δ fun y => dicAt δ i π fun t ks => (keyFit t y = true ∧ ks.length < sizeLine) ∧ W.nx (putS δ i π (.dic t (putO ks y (.sh d))))
theorem psd_dputR {spos : Pos} (hu : X.A.units + 1 < cLine) (ho : PR X B o ρ) (hi : PD X B i ry) (he : PD X B e r) (hs : swapsWith e (some (.Subscript o i spos)) pos.line X.env = pure false := by rfl) :
    PSD X B (.Assign [.Subscript o i spos] e pos) (dDPutR ρ ry r) := ps_mono (ps_dput hu ho hi he hs) fun E σ H q => by
  obtain ⟨G0, H0, G, δ, W, g0, st, h, k⟩ := q
  refine ⟨H0, G, δ, _, g0.j, st, h, fun d w G2 H2 q2 g2 h2 => ?_⟩
  refine ⟨H0, G2, δ, _, g2.j, st.gr g2, q2, fun i π v0 v G3 H3 q3 g3 h0 hv => ?_⟩
  refine ⟨H0, G3, δ, _, g3.j, (st.gr g2).gr g3, q3, fun y u G4 H4 q4 g4 h4 => ?_⟩
  obtain ⟨t, ks, hx, ⟨kf, kz⟩, q4⟩ := dicAt_at q4
  obtain ⟨fs, c1, c2, c3, _, c5⟩ := ((st.gr g2).gr g3).place hx h0 hv g4
  have hr : ∃ p, v = .ref p := by cases c1 <;> exact ⟨_, rfl⟩
  obtain ⟨p, rfl⟩ := hr
  obtain ⟨hob, fs', d1, d2, d3, d4, d5⟩ := c1.dput c2 g4.j.ex h4 (h2.mono (g3.ex.trans g4.ex)) kf kz
  have hp := c3 p d2
  refine ⟨p, _, rfl, d1, ?_⟩
  exact k.nx _ _ _ _ q4 ((((g0.trans g2).trans g3).trans g4).own hp.1 (c1.node p d2).1 hp.2) ((g2.ex.trans g3.ex).trans g4.ex) (c5 p hob _ fs' d2 d3 d4 d5)
/-- {"a": .., ..} of one's own -/
def oDic (ks : List Str) (ra : DA) : OE := fun δ Q => ra δ fun ds => match decide (ds.length = ks.length) with
  | true => Q (.dic false ((zipS ks ds).map fun z => (z.1, .sh z.2)))
  | false => False
theorem ownK_zip {K : PySem.W.Frag} {G H : Hp} : ∀ {ks : List Str} {vs : List V} {ds : List D}, Dats K B G vs ds → OwnK K B G H ((ks.zip vs).map fun z => (.inr z.1, z.2)) ((zipS ks ds).map fun z => (z.1, .sh z.2)) []
  | [], _, _, _ => .nil
  | _ :: _, _, _, .nil => .nil
  | k :: ks, _, _, .cons h t => .consS (.sh h) (ownK_zip (ks := ks) t)
theorem po_dic {keys : List (Option Expr)} {values : List Expr} {ks : List Str} {ra : DA} (h : PPD X B pos keys values ks ra) (hn : ks.Nodup) (hk : keys.all (·.isSome) = true) (hl : keys.length = values.length) (h0 : keys ≠ []) (h15 : keys.length ≤ 15) (hks : ks.length ≤ 15) : PO X B (.Dict keys values pos) (oDic ks ra) := by
  obtain ⟨trs, h1, h2⟩ := h.ex
  refine pe_mono (pe_disp h1 hk hl h0 h15) fun σ H P q p hp => ?_
  obtain ⟨H0, G, δ, Q, j, st, hr, k⟩ := q
  have g1 : Gr X.K B G H G (upd H p (.dK [])) := Gr.new0 j hp
  have nb : p ≠ B.b := Gr.neB j hp
  have gp : G p = none := fresh_back j.ex hp
  have hpn : Mu (upd H p (.dK [])) p := ⟨_, upd_same, fun _ z => by cases z⟩
  refine h2 σ _ _ ⟨H0, G, δ, _, g1.j, st.gr g1, hr, fun ds vs G2 H2 q2 g2 d2 => ?_⟩
  have e2 : H2 p = some (.dK []) := g2.keep p _ nb upd_same
  have gp2 : G2 p = none := by rw [g2.old p hpn]; exact gp
  have q2 : (match decide (ds.length = ks.length) with | true => Q (.dic false ((zipS ks ds).map fun z => (z.1, .sh z.2))) | false => False) := q2
  cases hz : decide (ds.length = ks.length) with
  | false => rw [hz] at q2; exact q2.elim
  | true =>
    rw [hz] at q2
    have hlen := of_decide_eq_true hz
    refine ⟨e2, (ks.zip vs).map fun z => (.inr z.1, z.2), by rw [List.map_map]; rfl, ?_, ?_⟩
    · rw [List.length_map, List.length_zip]; omega
    · have nd : ((([] : List (Key × V)) ++ (ks.zip vs).map fun z : Str × V => ((Sum.inr z.1 : Key), z.2)).map fun x : Key × V => x.1).Nodup := by
        rw [List.nil_append, List.map_map]
        have : ((fun x : Key × V => x.1) ∘ fun z : Str × V => (Sum.inr z.1, z.2)) = (fun x : Str => (Sum.inr x : Key)) ∘ Prod.fst := rfl
        rw [this, ← List.map_map, List.map_fst_zip (by rw [d2.len]; omega)]
        exact List.Pairwise.map _ (fun a b hab z => hab (Sum.inr.inj z)) hn
      rw [merge_nd _ _ nd, List.nil_append]
      refine k _ _ [p] G2 _ q2 ((g1.trans g2).own hp gp2 nb) (.dK upd_same gp2 (ownK_zip d2)) ⟨List.nodup_cons.mpr ⟨List.not_mem_nil, List.nodup_nil⟩, fun q hq => ?_⟩
      cases List.mem_singleton.mp hq
      exact ⟨hp, nb⟩
end
/-! loops over a list of one's own that stands still -/
def enW (b : Bool) (k : Nat) (d : D) : D := if b then .tup [.int k, d] else d
def forOw (i : Nat) (v : V) (xs : List OD) (b : Bool) (g : DG) (tb : DTS) (W : DEnds) : List OD → Nat → DS → Prop
  | [], _, δ => δ[i]? = some (some (.ow v (.lst xs))) ∧ W.nx δ
  | o :: os, k, δ => δ[i]? = some (some (.ow v (.lst xs))) ∧ shO (some o) fun d => g (enW b k d) δ fun δ' => tb { W with nx := forOw i v xs b g tb W os (k + 1), ct := forOw i v xs b g tb W os (k + 1), bk := W.nx } δ'
def dForOw (i : Nat) (b : Bool) (g : DG) (tb : DTS) : DTS := fun W δ => ownD δ[i]? fun v xs => forOw i v xs b g tb W xs 0 δ
section
variable {X : Cx} {B : Bx} {pos : Pos}
theorem for_own {K : PySem.W.Frag} {J : It} {p : Addr} {i : Nat} {bb : Bool} {g : DG} {is : List Nat} {tb : DTS} {G0 H0 G H : Hp} {δ : DS} {σ : L2.St} {W : DEnds} {E : Ends} {v : V} {xs : List OD} (hJ : J = if bb then Ite K p else Itl K p) (hv : v = .ref p)
    (g0 : Gr K B G0 H0 G H) (s : StOk K B H0 G H σ δ) (q : forOw i v xs bb g tb W xs 0 δ) (k : Endy K B G0 H0 G W E) :
    ∃ Wv : Nat → Nat → L2.St → Hp → Prop, (∃ m, Wv 0 m σ H) ∧ ∀ n m σ H, Wv n m σ H → (J.stop n H ∧ E.nx σ H) ∨ (J.go n H ∧ ∃ N : L2.St → Hp → Prop, (∀ σ' H', N σ' H' → ∃ m', m' < m ∧ Wv (n + 1) m' σ' H') ∧ ∀ x H', J.yld n H x H' → liftG K B is g x σ H' fun σ2 H2 => liftS K B tb { E with nx := N, ct := N, bk := E.nx } σ2 H2) := by
  refine ⟨fun n m σ H => n + m = xs.length ∧ ∃ G' δ', Ex G G' ∧ Gr K B G0 H0 G' H ∧ StOk K B H0 G' H σ δ' ∧ forOw i v xs bb g tb W (xs.drop n) n δ', ⟨xs.length, by omega, G, δ, Ex.refl _, g0, s, q⟩, fun n m σ H hw => ?_⟩
  obtain ⟨em, G', δ', ex, gr, st, hf⟩ := hw
  have at_ : δ'[i]? = some (some (.ow v (.lst xs))) → ∃ vs f, H p = some (.lst vs) ∧ Owns K B G' H vs xs f := fun h => by
    obtain ⟨F, y⟩ := st.ex
    obtain ⟨_, a2, _, _⟩ := y.ow h
    subst hv
    generalize F i = fi at a2
    cases a2 with
    | @lst _ vs _ f b1 b2 b3 => exact ⟨vs, f, b1, b3⟩
  by_cases hlt : n < xs.length
  · rw [List.drop_eq_getElem_cons hlt] at hf
    obtain ⟨hs, hf⟩ := hf
    obtain ⟨vs, f, a1, a2⟩ := at_ hs
    have hl : n < vs.length := by rw [a2.len]; exact hlt
    cases hxn : xs[n] with
    | lst _ => rw [hxn] at hf; exact hf.elim
    | dic _ _ => rw [hxn] at hf; exact hf.elim
    | sh d =>
      rw [hxn] at hf
      have hf : g (enW bb n d) δ' fun δ2 => tb { W with nx := forOw i v xs bb g tb W (xs.drop (n + 1)) (n + 1), ct := forOw i v xs bb g tb W (xs.drop (n + 1)) (n + 1), bk := W.nx } δ2 := hf
      obtain ⟨u, f1, fk, f2, e1, _, e3, _⟩ := a2.at (k := n) (x := .sh d) (by rw [List.getElem?_eq_getElem hlt, hxn])
      have du : Dat K B G' u d := by cases e3 with | sh h => exact h
      have go : J.go n H := by
        subst hJ
        cases bb with
        | true => exact ⟨vs, vs[n], sq_of a1, List.getElem?_eq_getElem hl⟩
        | false => exact ⟨vs, vs[n], sq_of a1, List.getElem?_eq_getElem hl⟩
      refine .inr ⟨go, fun σ1 H1 => ∃ G3 δ3, Ex G G3 ∧ Gr K B G0 H0 G3 H1 ∧ StOk K B H0 G3 H1 σ1 δ3 ∧ forOw i v xs bb g tb W (xs.drop (n + 1)) (n + 1) δ3, fun σ1 H1 hn => ⟨m - 1, by omega, by omega, hn⟩, fun x H1 hy => ?_⟩
      have yl : ∃ G3, Gr K B G' H G3 H1 ∧ Dat K B G3 x (enW bb n d) := by
        subst hJ
        cases bb with
        | true =>
          obtain ⟨T, w, rfl, hT, rfl, y⟩ := hy
          have q := y vs (sq_of a1)
          rw [e1] at q
          cases q
          have gn := Gr.new (o := .tup [.int (n : Nat), u]) gr.j hT
          exact ⟨_, gn, .tup upd_same (.cons (.int _) (.cons (du.mono gn.ex) .nil))⟩
        | false =>
          obtain ⟨rfl, y⟩ := hy
          have q := y vs (sq_of a1)
          rw [e1] at q
          cases q
          exact ⟨G', Gr.refl gr.j, du⟩
      obtain ⟨G3, g3, hx⟩ := yl
      refine ⟨H0, G3, δ', _, _, g3.j, st.gr g3, hx, hf, fun σ2 δ2 q3 s3 _ => ?_⟩
      refine ⟨G0, H0, G3, δ2, _, gr.trans g3, s3, q3, ⟨?_, ?_, ?_, ?_, ?_⟩⟩
      · exact fun σ4 δ4 G4 H4 q4 g4 e4 s4 => ⟨G4, δ4, (ex.trans g3.ex).trans e4, g4, s4, q4⟩
      · exact fun σ4 δ4 G4 H4 q4 g4 e4 s4 => k.nx _ _ _ _ q4 g4 ((ex.trans g3.ex).trans e4) s4
      · exact fun σ4 δ4 G4 H4 q4 g4 e4 s4 => ⟨G4, δ4, (ex.trans g3.ex).trans e4, g4, s4, q4⟩
      · exact fun d v G4 H4 q4 g4 e4 h4 => k.rt _ _ _ _ q4 g4 ((ex.trans g3.ex).trans e4) h4
      · exact fun o v f G4 H4 q4 g4 e4 h4 => k.ro _ _ _ _ _ q4 g4 ((ex.trans g3.ex).trans e4) h4
  · have e : n = xs.length := by omega
    subst e
    rw [List.drop_length] at hf
    obtain ⟨hs, hf⟩ := hf
    obtain ⟨vs, f, a1, a2⟩ := at_ hs
    refine .inl ⟨?_, k.nx _ _ _ _ hf gr ex st⟩
    subst hJ
    cases bb with
    | true => exact ⟨vs, sq_of a1, by rw [a2.len]; exact Nat.le_refl _⟩
    | false => exact ⟨vs, sq_of a1, by rw [a2.len]; exact Nat.le_refl _⟩
theorem own_ref {K : PySem.W.Frag} {H0 G H : Hp} {σ : L2.St} {δ : DS} {i : Nat} {v : V} {xs : List OD} (s : StOk K B H0 G H σ δ) (h : δ[i]? = some (some (.ow v (.lst xs)))) : ∃ p vs, v = .ref p ∧ σ[i]? = some (some v) ∧ H p = some (.lst vs) := by
  obtain ⟨F, y⟩ := s.ex
  obtain ⟨a1, a2, _, _⟩ := y.ow h
  generalize F i = fi at a2
  cases a2 with
  | lst b1 b2 b3 => exact ⟨_, _, rfl, a1, b1⟩
theorem psd_forOw {tg iter : Expr} {body : List Stmt} {i : Nat} {g : DG} {is : List Nat} {tb : DTS} (hp : PassesOwn (model X.prog X.w) X.A X.env X.xe) (hc : X.calm = true) (hi : PE X iter (tVar i)) (hg : PGD X B tg is g) (hb : PSsD X B body tb)
    (hs : ∀ x, foldedSetIterable iter X.env x = pure x := by intro _; rfl) : PSD X B (.For tg iter body [] pos) (dForOw i false g tb) := ps_mono (ps_for hp hc (pi_list hi) hg hb hs) fun E σ H q => by
  obtain ⟨G0, H0, G, δ, W, g0, s, h, k⟩ := q
  have h : ownD δ[i]? fun v xs => forOw i v xs false g tb W xs 0 δ := h
  unfold ownD at h
  split at h
  · rename_i v xs h1
    obtain ⟨p, vs, hv, a1, a2⟩ := own_ref s h1
    refine ⟨v, a1, p, hv, ⟨vs, sq_of a2⟩, ?_⟩
    exact for_own (bb := false) rfl hv g0 s h k
  · exact h.elim
theorem psd_forEn {iter : Expr} {elts : List Expr} {kk : Nat} {tpos p pos' : Pos} {body : List Stmt} {i : Nat} {g : DG} {is : List Nat} {tb : DTS} (hp : PassesOwn (model X.prog X.w) X.A X.env X.xe) (hc : X.calm = true) (hgl : Gl X "enumerate") (hm : X.mg "enumerate" = none) (hi : PE X iter (tVar i)) (hg : PGD X B (.Tuple elts kk tpos) is g) (hb : PSsD X B body tb)
    (hst : starEach [iter] X.env = [(false, eval iter X.env)] := by rfl) (hs : ∀ x, foldedSetIterable (.Call (.Name "enumerate" p) [iter] [] pos') X.env x = pure x := by intro _; rfl) : PSD X B (.For (.Tuple elts kk tpos) (.Call (.Name "enumerate" p) [iter] [] pos') body [] pos) (dForOw i true g tb) := ps_mono (ps_for hp hc (pi_enum hgl hm (pa_cons hi pa_nil hst) hst) hg hb hs) fun E σ H q => by
  obtain ⟨G0, H0, G, δ, W, g0, s, h, k⟩ := q
  have h : ownD δ[i]? fun v xs => forOw i v xs true g tb W xs 0 δ := h
  unfold ownD at h
  split at h
  · rename_i v xs h1
    obtain ⟨p, vs, hv, a1, a2⟩ := own_ref s h1
    refine ⟨v, a1, p, vs, by rw [hv], sq_of a2, ?_⟩
    exact for_own (bb := true) rfl hv g0 s h k
  · exact h.elim
end
end DL
namespace DL
open PySem PySem.Spec PyProof.Rows L2 Evl
/-! the evaluator, for what is one's own -/
def repL (x y : D) (Q : List D → Prop) : Prop := match x, y with
  | .lst xs, .int n => (-(2 ^ 63) ≤ n ∧ n < 2 ^ 63 ∧ xs.length * n.toNat ≤ sizeLine) ∧ Q (List.replicate n.toNat xs).flatten
  | _, _ => False
def catL (x y : D) (Q : List D → Prop) : Prop := match x, y with
  | .lst xs, .lst ys => xs.length + ys.length ≤ sizeLine ∧ Q (xs ++ ys)
  | _, _ => False
def lstL (ds : List D) (Q : List D → Prop) : Prop := match ds with
  | [.lst xs] => Q xs
  | [.tup xs] => Q xs
  | _ => False
def dicO (ks : List Str) (ds : List D) (Q : OD → Prop) : Prop := match decide (ds.length = ks.length) with
  | true => Q (.dic false ((zipS ks ds).map fun z => (z.1, .sh z.2)))
  | false => False
section
variable {δ : DS} {Q : D → Prop} {QO : OD → Prop} {QL : List D → Prop} {QOL : List OD → Prop} {QB : Bool → Prop} {QR : Nat → List Nat → Prop} {W : DEnds} {r ra rb ri : DE} {rA : DA} {ro rx ry rz : OE} {rao : OA} {S : FO} {ρ : DR} {i j l n C : Nat} {d : D} {ds xs ys : List D} {os : List OD} {o s : OD} {a b : Int} {π : List Nat} {v : V} {oo : Option SD} {ks : List Str} {t : Bool} {kvs : List (D × OD)}
theorem z_oD : oD r δ QO = r δ fun d => QO (.sh d) := propext Iff.rfl
theorem z_oF : oF rA δ QO = rA δ fun ds => QO (.lst (ds.map .sh)) := propext Iff.rfl
theorem z_oNil : oNil δ QOL = QOL [] := propext Iff.rfl
theorem z_oCons : oCons ro rao δ QOL = ro δ fun x => rao δ fun xs => QOL (x :: xs) := propext Iff.rfl
theorem z_oLst : oLst rao δ QO = rao δ fun os => szD os.length (QO (.lst os)) := propext Iff.rfl
theorem z_oDic0 : oDic0 t δ QO = QO (.dic t []) := propext Iff.rfl
theorem z_oDic : oDic ks rA δ QO = rA δ fun ds => dicO ks ds QO := propext Iff.rfl
theorem z_dicO (h : ds.length = ks.length) : dicO ks ds QO = QO (.dic false ((zipS ks ds).map fun z => (z.1, .sh z.2))) := by unfold dicO; simp only [h, decide_true]
theorem z_dFz : dFz ro δ Q = ro δ fun o => Q o.toD := propext Iff.rfl
theorem z_setT : dSetT i ro W δ = ro δ fun o => ∀ v, W.nx (δ.set i (some (.ow v o))) := propext Iff.rfl
theorem z_retE : dRetE ro W δ = ro δ W.ro := propext Iff.rfl
theorem z_retO : dRetO i W δ = ownO δ[i]? fun _ o => W.ro o := propext Iff.rfl
theorem z_oCall : oCall S rA δ QO = rA δ fun ds => S ds QO := propext Iff.rfl
theorem z_oMeth : oMeth C S r rA δ QO = r δ fun d => isO C d ∧ rA δ fun ds => S (d :: ds) QO := propext Iff.rfl
theorem z_rep : fRep ra rb δ QL = ra δ fun x => rb δ fun y => repL x y QL := propext Iff.rfl
theorem z_repL : repL (.lst xs) (.int a) QL = ((-(2 ^ 63) ≤ a ∧ a < 2 ^ 63 ∧ xs.length * a.toNat ≤ sizeLine) ∧ QL (List.replicate a.toNat xs).flatten) := propext Iff.rfl
theorem z_cat : fCat ra rb δ QL = ra δ fun x => rb δ fun y => catL x y QL := propext Iff.rfl
theorem z_catL : catL (.lst xs) (.lst ys) QL = (xs.length + ys.length ≤ sizeLine ∧ QL (xs ++ ys)) := propext Iff.rfl
theorem z_list : fList rA δ QL = rA δ fun ds => lstL ds QL := propext Iff.rfl
theorem z_listL : lstL [.lst xs] QL = QL xs := propext Iff.rfl
theorem z_listT : lstL [.tup xs] QL = QL xs := propext Iff.rfl
theorem z_par2 : dPar2 i j (oCons rx (oCons ry oNil)) W δ = rx δ fun x => ry δ fun y => ∀ u v, W.nx ((δ.set i (some (slotOf u x))).set j (some (slotOf v y))) := propext Iff.rfl
theorem z_par3 : dPar3 i j l (oCons rx (oCons ry (oCons rz oNil))) W δ = rx δ fun x => ry δ fun y => rz δ fun z => ∀ u v w, W.nx (((δ.set i (some (slotOf u x))).set j (some (slotOf v y))).set l (some (slotOf w z))) := propext Iff.rfl
theorem z_sOs : slotOf v (.sh d) = .sh d := rfl
theorem z_sOl : slotOf v (.lst os) = .ow v (.lst os) := rfl
theorem z_sOd : slotOf v (.dic t kvs) = .ow v (.dic t kvs) := rfl
theorem z_rVar : rVar i δ QR = ownO δ[i]? fun _ _ => QR i [] := propext Iff.rfl
theorem z_rIx : rIx ρ ri δ QR = ρ δ fun i π => ri δ fun d => lstAt δ i π fun xs => ixR d xs.length fun n => QR i (π ++ [n]) := propext Iff.rfl
theorem z_ixR {K : Nat → Prop} : ixR (.int a) n K = ((0 ≤ a ∧ a < n) ∧ K a.toNat) := propext Iff.rfl
theorem z_appR : dAppR ρ r W δ = ρ δ fun i π => lstAt δ i π fun xs => r δ fun d => xs.length < sizeLine ∧ W.nx (putS δ i π (.lst (xs ++ [.sh d]))) := propext Iff.rfl
theorem z_stoR : dStoR ρ ri r W δ = r δ fun d => ρ δ fun i π => ri δ fun kd => lstAt δ i π fun xs => ixR kd xs.length fun n => W.nx (putS δ i π (.lst (xs.set n (.sh d)))) := propext Iff.rfl
theorem z_augR : dAugR ρ ri r W δ = ρ δ fun i π => ri δ fun kd => lstAt δ i π fun xs => ixR kd xs.length fun n => shO xs[n]? fun x => r δ fun y => oI (fun a b => .int (a + b)) x y fun z => W.nx (putS δ i π (.lst (xs.set n (.sh z)))) := propext Iff.rfl
theorem z_oI : oI (fun a b => .int (a + b)) (.int a) (.int b) Q = Q (.int (a + b)) := propext Iff.rfl
theorem z_shO {K : D → Prop} : shO (some (.sh d)) K = K d := propext Iff.rfl
theorem z_dputR : dDPutR ρ ri r W δ = r δ fun d => ρ δ fun i π => ri δ fun y => dicAt δ i π fun t ks => (keyFit t y = true ∧ ks.length < sizeLine) ∧ W.nx (putS δ i π (.dic t (putO ks y (.sh d)))) := propext Iff.rfl
theorem z_lstA0 {K : List OD → Prop} : lstAt (some (.ow v (.lst os)) :: δ) 0 [] K = K os := propext Iff.rfl
theorem z_lstAS {K : List OD → Prop} : lstAt (oo :: δ) (i + 1) π K = lstAt δ i π K := by unfold lstAt getS; rw [List.getElem?_cons_succ]
theorem z_dicA0 {K : Bool → List (D × OD) → Prop} : dicAt (some (.ow v (.dic t kvs)) :: δ) 0 [] K = K t kvs := propext Iff.rfl
theorem z_dicAS {K : Bool → List (D × OD) → Prop} : dicAt (oo :: δ) (i + 1) π K = dicAt δ i π K := by unfold dicAt getS; rw [List.getElem?_cons_succ]
theorem z_putS0 : putS (some (.ow v o) :: δ) 0 π s = some (.ow v (setO o π s)) :: δ := rfl
theorem z_putSS : putS (oo :: δ) (i + 1) π s = oo :: putS δ i π s := by
  unfold putS
  rw [List.getElem?_cons_succ]
  split
  · rename_i h
    simp only [h, List.set_cons_succ]
  · rfl
theorem z_setO0 : setO o [] s = s := by cases o <;> rfl
theorem z_lstA1 {K : List OD → Prop} {os2 : List OD} {x : OD} : lstAt (some (.ow v (.lst (.lst os :: os2))) :: δ) 0 [0] K = K os := propext Iff.rfl
theorem z_lstA2 {K : List OD → Prop} {os2 : List OD} {x : OD} : lstAt (some (.ow v (.lst (x :: .lst os :: os2))) :: δ) 0 [1] K = K os := propext Iff.rfl
theorem z_setO1 {os2 : List OD} {x : OD} : setO (.lst (x :: os2)) [0] s = .lst (s :: os2) := by
  show OD.lst ((x :: os2).set 0 (setO x [] s)) = _
  rw [z_setO0]; rfl
theorem z_setO2 {os2 : List OD} {x y : OD} : setO (.lst (x :: y :: os2)) [1] s = .lst (x :: s :: os2) := by
  show OD.lst ((x :: y :: os2).set 1 (setO y [] s)) = _
  rw [z_setO0]; rfl
theorem z_forOw {tb : DTS} {g : DG} {bb : Bool} : dForOw i bb g tb W δ = ownD δ[i]? fun v xs => forOw i v xs bb g tb W xs 0 δ := propext Iff.rfl
theorem z_toDs : OD.toD (.sh d) = d := by rw [OD.toD]
theorem z_toDl : OD.toD (.lst os) = .lst (toDs os) := by rw [OD.toD]
theorem z_toDd : OD.toD (.dic t kvs) = .dic (toDk kvs) := by rw [OD.toD]
end
section
variable {X : Cx} {B : Bx}
/-- y = [..], one's own -/
theorem psd_setLcO {i : Nat} {y : Str} {py : Pos} {elt tg iter : Expr} {ifs : List Expr} {scope : Scope} {own : List (Str × Nat)} {pos spos : Pos} {ri : DA} {g : DG} {is : List Nat} {tt : DT} {te : DE} (hc : X.calm = true) (hN : X.N.Nodup) (hy : X.N[i]? = some y) (hyl : X.env.scope.names.lookup y = some .local)
    (hsw : swapsWith (.ListComp elt [⟨tg, iter, ifs, 0⟩] scope pos) (some (.Name y py)) spos.line X.env = pure true) (hi : PID X B tg iter ri) (ok : BlkOk X.N X.env.scope scope own) (hv : ∀ i ∈ is, i ∈ own.map (·.2))
    (hg : ∀ (s : Shared) (H : Hp) (C : Addr) (cl : List (Str × Addr)) (fp : List Addr), PGD (X.blk s H scope (compEnvC scope cl C X.env) fp) B tg is g) (ht : ∀ (s : Shared) (H : Hp) (C : Addr) (cl : List (Str × Addr)) (fp : List Addr), PTsD (X.blk s H scope (compEnvC scope cl C X.env) fp) B ifs tt)
    (he : ∀ (s : Shared) (H : Hp) (C : Addr) (cl : List (Str × Addr)) (fp : List Addr), PD (X.blk s H scope (compEnvC scope cl C X.env) fp) B elt te) (hs : ∀ x, foldedSetIterable iter X.env x = pure x := by intro _; rfl) :
    PSD X B (.Assign [.Name y py] (.ListComp elt [⟨tg, iter, ifs, 0⟩] scope pos) spos) (dSetO i (fLc ri g tt te (own.map (·.2)))) := ps_mono (ps_setLc hc hN hy hyl hsw hi ok hg ht he hs) fun E σ H q => by
  obtain ⟨G0, H0, G, δ, W, g0, s, h, k⟩ := q
  refine lift_lc hv ⟨H0, G, δ, _, g0.j, s, h, fun ds p vs G2 H2 q2 g2 hp gp h2 hd => ?_⟩
  exact k.nx _ _ _ _ (q2 (.ref p)) (g0.trans g2) g2.ex (at_own g0 s g2 hp gp h2 hd)
end
end DL
namespace DL
open PySem PySem.Spec PyProof.Rows L2 Evl
section
variable {P : Program} {w : World} {A : Around} {E : Value → Shared → Prop} {s : Shared}
/-- an empty set, as it is laid -/
abbrev sx (w : World) : Obj := { cls := .type "set", dict := none, data := .set #[] 0 (.fresh 0 0 (!w.params.followText "set-order")) }
/-- what set.__init__ does with a list of whole numbers -/
theorem set_init_lst {ax : Addr} {xs : Array Value} (zs : List Int) {R : Result → Shared → Prop} (hh : A.handled = none) (hx : s.heap.IsList ax xs) (hz : IntsAre xs.toList zs) (hb : zs.length + 1 < scanBound)
    (fin : ∀ (h' : Heap) (tk c : Nat), SetR w h' s.heap.objs.size (fun j => decide (j ∈ zs)) c → c ≤ zs.length → (∀ b o, s.heap.get? b = some o → h'.get? b = some o) → R (.ok (.ret .none)) { s with heap := h', toks := tk }) :
    codeAny (model P w) A (.call (.builtin "set.__init__") ⟨[.ref s.heap.objs.size, .ref ax], []⟩) R { s with heap := s.heap.push (sx w) } := by
  have at0 : (s.heap.push (sx w)).get? s.heap.objs.size = some (sx w) := Heap.get?_push_size _ rfl
  have ty0 : Shared.TypeIs { s with heap := s.heap.push (sx w) } (.ref s.heap.objs.size) "set" := ⟨_, at0, rfl⟩
  have hsz : xs.size = zs.length := by
    have := IntsAre.length hz
    rwa [Array.length_toList] at this
  refine codeAny_call_builtin F.called_set.init.plain F.entry_set_init (check_set_init_1 ty0 ?_)
  obtain ⟨ob, h1, h2, cap, h3⟩ := hx
  obtain ⟨k1, k2, k3, k4⟩ := ob
  simp only at h2 h3
  subst h2 h3
  have at1 : (s.heap.push (sx w)).get? ax = some { cls := .type "list", dict := k2, data := .seq xs cap, slots := k4 } := Heap.get?_push_of_some _ h1
  have isl : (s.heap.push (sx w)).IsList ax xs := ⟨_, at1, rfl, cap, rfl⟩
  have n1 := F.sub_list_set
  have n2 := F.sub_list_frozenset
  have n3 : (Value.type "list" == Value.type "dict") = false := by decide
  unfold Builtin.«set.__init__» noKeywords Builtin.Frozenset.updateFrom
  generalize eqI : pyIter = theIter
  wp_walk
  subst eqI
  refine wpAny_pyIter_list isl (wpAny_bind (wpAny_runValue ?_))
  have lt1 : ax < s.heap.objs.size := Heap.lt_size h1
  have szp : (s.heap.push (sx w)).objs.size = s.heap.objs.size + 1 := Heap.size_push ..
  have hh3 : A.in1.in1.handled = none := by simp [hh]
  have hv : ∀ (i : Nat) (v : Value), xs[i]? = some v → ∃ k t, zs[i]? = some k ∧ v = .int k t := fun i v e => by
    have li : i < zs.length := hsz ▸ (Array.getElem?_eq_some_iff.mp e).1
    obtain ⟨t, q⟩ := IntsAre.int_at hz i v (by rw [Array.getElem?_toList]; exact e)
    refine ⟨zs[i], t, List.getElem?_eq_getElem li, q.trans ?_⟩
    rw [List.getD_eq_getElem?_getD, List.getElem?_eq_getElem li]
    rfl
  have ne1 : ax ≠ (s.heap.push (sx w)).objs.size := by rw [szp]; exact Nat.ne_of_lt (Nat.lt_succ_of_lt lt1)
  have ne2 : s.heap.objs.size ∉ [(s.heap.push (sx w)).objs.size, ax] := fun z => by
    rw [szp] at z
    rcases List.mem_cons.mp z with z | z
    · exact absurd z (Nat.ne_of_lt (Nat.lt_succ_self _))
    · exact absurd (List.mem_singleton.mp z) (Nat.ne_of_gt lt1)
  refine set_update_ints ((Walks.list hh3 (s.heap.push (sx w)).objs.size ax ne1 xs).toS) s.heap.objs.size ne2 zs hsz hb hv (xs.size - 0) 0 _ (by omega) (Nat.zero_le _) ?st ?s0 fun s2 c mv hc hS => ?_
  case st => exact ⟨⟨_, Heap.get?_push_size _ rfl, rfl, rfl⟩, isl.push _⟩
  case s0 => exact ⟨0, Nat.le_refl 0, setR_new_at (Heap.get?_push_of_some _ at0)⟩
  obtain ⟨h2, g2, d2, t2, o2⟩ := s2
  have e1 : g2 = s.gens := mv.gens
  have e2 : d2 = s.drawn := mv.drawn
  have e3 : o2 = s.os := mv.os
  subst e1 e2 e3
  show wpAny _ _ _ _ _ _
  refine wpAny_pure ?_
  show wpAny _ _ (ret Value.none) _ _ _
  refine wpAny_pure (fin h2 t2 c hS (hsz ▸ hc) fun b o e => ?_)
  have lb : b < s.heap.objs.size := Heap.lt_size e
  refine mv.heap b o (fun z => ?_) (Heap.get?_push_of_some _ (Heap.get?_push_of_some _ e))
  rw [szp] at z
  rcases List.mem_cons.mp z with z | z
  · exact absurd z (Nat.ne_of_lt lb)
  · exact absurd (List.mem_singleton.mp z) (Nat.ne_of_lt (Nat.lt_succ_of_lt lb))
/-- set(xs), a list of whole numbers -/
theorem call_set_lst {ax : Addr} {xs : Array Value} (zs : List Int) {Q : Value → Shared → Prop} (hh : A.handled = none) (hx : s.heap.IsList ax xs) (hz : IntsAre xs.toList zs) (hb : zs.length + 1 < scanBound)
    (fin : ∀ (h' : Heap) (tk c : Nat), SetR w h' s.heap.objs.size (fun j => decide (j ∈ zs)) c → c ≤ zs.length → (∀ b o, s.heap.get? b = some o → h'.get? b = some o) → Q (.ref s.heap.objs.size) { s with heap := h', toks := tk }) :
    wpAny (model P w) A (call (.type "set") [.ref ax]) Q E s := by
  obtain ⟨cc, tl, mro⟩ := F.called_set.mro
  have f1 := F.called_set.made
  have f2 := F.called_set.sub
  have f3 := F.called_set.notType
  have f4 := F.called_set.canCreate
  have f5 := F.typeCall_set_1 (.ref ax)
  refine wpAny_call (codeAny_of_tree (show wpAny _ _ (callAny (.type "set") _) _ _ _ from wpAny_pure ⟨Code.quiet_builtin _ (by decide +kernel), codeAny_builtin F.entry_type_call ?_⟩))
  rw [Around.under_plain (weight_type_call_type "set" [.ref ax] []) rfl]
  repeat (any_goals (first | wp_step | assumption))
  refine codeAny_mono (code_set_led1 (.ref ax) (E := E) (Q₁ := fun x s1 => x = .ref s.heap.objs.size ∧ s1 = { s with heap := s.heap.push (sx w) }) ⟨rfl, rfl⟩) fun r s1 hr => ?_
  cases r with
  | error _ => exact hr
  | ok fl =>
    cases fl with
    | next => exact hr.elim
    | brk => exact hr.elim
    | cont => exact hr.elim
    | ret x =>
      obtain ⟨rfl, rfl⟩ := hr
      have ty0 : Shared.TypeIs { s with heap := s.heap.push (sx w) } (.ref s.heap.objs.size) "set" := ⟨_, Heap.get?_push_size _ rfl, rfl⟩
      have f6 := F.called_set.init.lookup
      have f7 := F.called_set.init.bind (.ref s.heap.objs.size)
      repeat (any_goals (first | wp_step | assumption))
      refine codeAny_mono (set_init_lst (P := P) (w := w) (s := s) (R := wants (fun r s2 => r = .none ∧ ∃ h' tk c, s2 = { s with heap := h', toks := tk } ∧ SetR w h' s.heap.objs.size (fun j => decide (j ∈ zs)) c ∧ c ≤ zs.length ∧ ∀ b o, s.heap.get? b = some o → h'.get? b = some o) E) zs (by simp [hh]) hx hz hb fun h' tk c a1 a2 a3 => ⟨rfl, h', tk, c, rfl, a1, a2, a3⟩) fun r2 s2 hr2 => ?_
      cases r2 with
      | error _ => exact hr2
      | ok fl2 =>
        cases fl2 with
        | next => exact hr2.elim
        | brk => exact hr2.elim
        | cont => exact hr2.elim
        | ret y =>
          obtain ⟨rfl, h', tk, c, rfl, a1, a2, a3⟩ := hr2
          repeat (any_goals (first | wp_step | assumption))
          exact fin _ _ _ a1 a2 a3
end
section
variable {X : Cx} {B : Bx} {e : Expr} {rA : DA} {pos : Pos}
theorem cr_setL (hc : X.calm = true) : CallR X (.type "set") (fun vs H Q => ∃ (l : Addr) (zs : List Int), vs = [.ref l] ∧ SqL X.K H l (zs.map V.int) ∧ zs.length ≤ 4000 ∧ ∀ a c, H a = none → c ≤ zs.length → Q (.ref a) (upd H a (SetO X.w a (fun j => decide (j ∈ zs)) c))) := by
  intro pins s σ H vs us Q I r h
  obtain ⟨l, zs, rfl, hq, hl, q⟩ := h
  rw [Vals.ref1 r]
  obtain ⟨its, rv, pl, _⟩ := I.list hq
  refine call_set_lst zs (I.ok.hd hc) pl.isList (by simpa using RZ.intsAre_vals rv) (by unfold scanBound; omega) fun h' tk c a1 a2 a3 => ?_
  have hn : H s.heap.objs.size = none := I.hok.fresh (Nat.le_refl _)
  exact ⟨.ref s.heap.objs.size, _, I.laid (a := s.heap.objs.size) (o := SetO X.w s.heap.objs.size (fun j => decide (j ∈ zs)) c) (h' := h') (t' := tk) a3 (Nat.le_refl _) (setO_new a1), rfl, q _ c hn a2⟩
/-! sorted(set(e)), whole numbers -/
def intsOf : List D → Option (List Int)
  | [] => some []
  | .int i :: r => (intsOf r).map (i :: ·)
  | _ :: _ => none
theorem intsOf_v {K : PySem.W.Frag} {G : Hp} : ∀ {vs : List V} {ds : List D} {ns : List Int}, Dats K B G vs ds → intsOf ds = some ns → vs = ns.map V.int
  | _, _, _, .nil, e => by cases e; rfl
  | _, _, ns, .cons h t, e => by
    cases h with
    | int b =>
      have e : (intsOf _).map (b :: ·) = some ns := e
      cases h2 : intsOf _ with
      | none => rw [h2] at e; cases e
      | some cs =>
        rw [h2] at e
        cases e
        rw [intsOf_v t h2]
        rfl
    | _ => cases e
theorem intsOf_map : ∀ ns : List Int, intsOf (ns.map .int) = some ns
  | [] => rfl
  | n :: ns => by rw [List.map_cons, intsOf, intsOf_map ns]; rfl
theorem ints_dats {K : PySem.W.Frag} {G : Hp} : ∀ ns : List Int, Dats K B G (ns.map V.int) (ns.map D.int)
  | [] => .nil
  | n :: ns => .cons (.int n) (ints_dats ns)
def setL (ds : List D) (Q : List D → Prop) : Prop := match ds with
  | [.lst xs] => match intsOf xs with
    | some zs => zs.length < 64 ∧ ∀ ns : List Int, ns.Pairwise (· < ·) → (∀ k : Int, k ∈ ns ↔ k ∈ zs) → Q (ns.map .int)
    | none => False
  | _ => False
def fSortSet (ra : DA) : DA := fun δ Q => ra δ fun ds => setL ds Q
theorem pf_sortSet {p p2 q : Pos} (hc : X.calm = true) (hg : Gl X "sorted") (hm : X.mg "sorted" = none) (hg2 : Gl X "set") (hm2 : X.mg "set" = none) (ha : PAD X B [e] rA) (hs : starEach [e] X.env = (false, eval e X.env) :: starEach [] X.env := by rfl) (hpl : (backTo q (starEach [] X.env)).any (·.1) = false := by rfl)
    (hs2 : starEach [.Call (.Name "set" p2) [e] [] q] X.env = (false, eval (.Call (.Name "set" p2) [e] [] q) X.env) :: starEach [] X.env := by rfl) (hpl2 : (backTo pos (starEach [] X.env)).any (·.1) = false := by rfl) :
    PF X B (.Call (.Name "sorted" p) [.Call (.Name "set" p2) [e] [] q] [] pos) (fSortSet rA) :=
  pe_mono (pe_callB (cr_sortedSet hc) hg hm (by decide +kernel) (pa_cons (pe_callTy (cr_setL hc) hg2 hm2 (by decide +kernel) ha (by decide) (by decide) hs hpl) pa_nil hs2) (by decide) (by decide) hs2 hpl2) fun σ H P q => by
  obtain ⟨H0, G, δ, Q, j, st, hr, k⟩ := q
  refine ⟨H0, G, δ, _, j, st, hr, fun ds vs G2 H2 q2 g2 h2 => ?_⟩
  cases h2 with
  | nil => exact q2.elim
  | cons h3 h4 =>
    cases h4 with
    | cons _ _ => cases h3 <;> exact q2.elim
    | nil =>
      cases h3 with
      | @lst a xs ys h5 h6 =>
        have q2 : (match intsOf ys with | some zs => zs.length < 64 ∧ ∀ ns : List Int, ns.Pairwise (· < ·) → (∀ k : Int, k ∈ ns ↔ k ∈ zs) → Q (ns.map .int) | none => False) := q2
        cases hi : intsOf ys with
        | none => rw [hi] at q2; exact q2.elim
        | some zs =>
          rw [hi] at q2
          have ev := intsOf_v h6 hi
          subst ev
          refine ⟨a, zs, rfl, sq_of (g2.j.ex _ _ h5), by omega, fun s c hs0 hc0 => ?_⟩
          have g3 : Gr X.K B G H G2 (upd H2 s (SetO X.w s (fun j => decide (j ∈ zs)) c)) := g2.trans (Gr.new0 g2.j hs0)
          refine ⟨s, _, c, rfl, upd_same, by omega, fun ns p hp1 hp2 _ hpn => ?_⟩
          exact pf_new k g3 hpn (ints_dats ns) (q2.2 ns hp1 fun k => (hp2 k).trans decide_eq_true_iff)
      | _ => exact q2.elim
theorem z_sortSet {δ : DS} {QL : List D → Prop} : fSortSet rA δ QL = rA δ fun ds => setL ds QL := propext Iff.rfl
theorem z_setL {zs : List Int} {QL : List D → Prop} : setL [.lst (zs.map .int)] QL = (zs.length < 64 ∧ ∀ ns : List Int, ns.Pairwise (· < ·) → (∀ k : Int, k ∈ ns ↔ k ∈ zs) → QL (ns.map .int)) := by
  unfold setL
  simp only [intsOf_map]
/-! list(range(n)), list(range(a, b)) -/
def rgL (ds : List D) (Q : List D → Prop) : Prop := match ds with
  | [.int n] => (-(2 ^ 62) ≤ n ∧ n ≤ 16777216) ∧ Q (ups 0 n.toNat)
  | [.int i, .int j] => (-(2 ^ 62) ≤ i ∧ i < 2 ^ 62 ∧ -(2 ^ 62) ≤ j ∧ j < 2 ^ 62 ∧ j - i ≤ 16777216) ∧ Q (ups i (j - i).toNat)
  | _ => False
def fListR (ra : DA) : DA := fun δ Q => ra δ fun ds => rgL ds Q
theorem ups_dats {K : PySem.W.Frag} {G : Hp} (a b : Int) : Dats K B G (rgV a b) (ups a (b - a).toNat) := by
  unfold rgV ups
  generalize List.range (b - a).toNat = l
  induction l with
  | nil => exact .nil
  | cons x l ih => exact .cons (.int _) ih
theorem pf_listR1 {r : DE} {p p2 q : Pos} (hc : X.calm = true) (hg : Gl X "list") (hm : X.mg "list" = none) (hg2 : Gl X "range") (hm2 : X.mg "range" = none) (ha : PD X B e r) (hs : starEach [e] X.env = (false, eval e X.env) :: starEach [] X.env := by rfl)
    (hs2 : starEach [.Call (.Name "range" p2) [e] [] q] X.env = (false, eval (.Call (.Name "range" p2) [e] [] q) X.env) :: starEach [] X.env := by rfl) :
    PF X B (.Call (.Name "list" p) [.Call (.Name "range" p2) [e] [] q] [] pos) (fListR (dCons r dNil)) :=
  pe_mono (pe_listRg hc hg hm (prg_1 hg2 hm2 ha hs) hs2) fun σ H P q => by
  obtain ⟨H0, G, δ, Q, j, st, hr, k⟩ := q
  refine ⟨H0, G, δ, _, j, st, hr, fun d v G2 H2 q2 g2 h2 => ?_⟩
  cases h2 with
  | int n =>
    obtain ⟨⟨n0, n1⟩, q2⟩ := q2
    refine ⟨n, rfl, ⟨by omega, by omega, by omega, by omega, by omega⟩, fun p hp => ?_⟩
    have z : (n - 0).toNat = n.toNat := by omega
    exact pf_new k g2 hp (ups_dats 0 n) (by rw [z]; exact q2)
  | _ => exact q2.elim
theorem z_listR {δ : DS} {QL : List D → Prop} : fListR rA δ QL = rA δ fun ds => rgL ds QL := propext Iff.rfl
theorem z_rgL {n : Int} {QL : List D → Prop} : rgL [.int n] QL = ((-(2 ^ 62) ≤ n ∧ n ≤ 16777216) ∧ QL (ups 0 n.toNat)) := propext Iff.rfl
end
/-! sum of a tuple of whole numbers -/
theorem pre_getD (zs : List Int) : ∀ i, i ≤ zs.length → preSum (fun j => zs.getD j 0) i = (zs.take i).sum
  | 0, _ => by simp [preSum]
  | i + 1, hi => by
    have hl : i < zs.length := by omega
    have e1 : zs.getD i 0 = zs[i] := by rw [List.getD_eq_getElem?_getD, List.getElem?_eq_getElem hl]; rfl
    have e2 : zs.take (i + 1) = zs.take i ++ [zs[i]] := by rw [List.take_add_one, List.getElem?_eq_getElem hl]; rfl
    rw [preSum, pre_getD zs i (by omega), e1, e2, List.sum_append, List.sum_cons, List.sum_nil, Int.add_zero]
theorem sum_tup {P : Program} {w : World} {A : Around} {E : Value → Shared → Prop} {s : Shared} {ax : Addr} {xs : Array Value} (zs : List Int) {Q : Value → Shared → Prop} (hh : A.handled = none) (hx : s.heap.IsTuple ax xs) (hz : IntsAre xs.toList zs)
    (fin : ∀ h' tk t', (∀ b o, s.heap.get? b = some o → h'.get? b = some o) → Q (.int zs.sum t') { s with heap := h', toks := tk }) : wpAny (model P w) A (call (.builtin "sum") [.ref ax]) Q E s := by
  have hsz : xs.size = zs.length := by
    have := IntsAre.length hz
    rwa [Array.length_toList] at this
  have lt1 : ax < s.heap.objs.size := by obtain ⟨_, e, _⟩ := hx; exact Heap.lt_size e
  refine call_sum_walkG (wpAny_pyIter_tuple hx ?_)
  refine ⟨_, _, _, _, _, _, fun i => zs.getD i 0, rfl, Walks.tuple (A := A.in1) hh s.heap.objs.size ax (Nat.ne_of_lt lt1) xs, ⟨⟨_, Heap.get?_push_size _ rfl, rfl, rfl⟩, hx.push _⟩, fun b hb => ?_, fun i v e => IntsAre.int_at hz i v (by rw [Array.getElem?_toList]; exact e), fun h' tk t' hk => ?_⟩
  · show b < (s.heap.push _).objs.size
    rw [Heap.size_push]
    rcases List.mem_cons.mp hb with rfl | hb
    · exact Nat.lt_succ_self _
    · rw [List.mem_singleton.mp hb]
      exact Nat.lt_succ_of_lt lt1
  · have q := fin h' tk t' fun b o e => hk b o (fun z => absurd (List.mem_singleton.mp z) (Nat.ne_of_lt (Heap.lt_size e))) (Heap.get?_push_of_some _ e)
    rw [hsz, pre_getD zs zs.length (Nat.le_refl _), List.take_length]
    exact q
section
variable {X : Cx} {B : Bx}
def cSumT : FD := fun ds Q => match ds with
  | [.tup xs] => match intsOf xs with
    | some zs => Q (.int zs.sum)
    | none => False
  | _ => False
theorem call_sumT_d (hc : X.calm = true) : CallR X (.builtin "sum") (cLift X.K B cSumT) := by
  intro pins s σ H vs us P I rv q
  obtain ⟨G, ds, Q, j, hd, hq, k⟩ := q
  cases hd with
  | nil => exact hq.elim
  | cons h1 h2 =>
    cases h1 with
    | @tup a xs ys hp t =>
      cases h2 with
      | cons _ _ => exact hq.elim
      | nil =>
        have hq : (match intsOf ys with | some zs => Q (.int zs.sum) | none => False) := hq
        cases hi : intsOf ys with
        | none => rw [hi] at hq; exact hq.elim
        | some zs =>
          rw [hi] at hq
          have ev := intsOf_v t hi
          subst ev
          rw [Vals.ref1 rv]
          obtain ⟨its, rv2, pl, _⟩ := I.tuple (tx (K := X.K) j.ex hp)
          exact sum_tup zs (I.ok.hd hc) pl (by simpa using RZ.intsAre_vals rv2) fun h' tk t' hk => ⟨.int _, H, I.kept hk, ⟨_, rfl⟩, k _ _ G H hq (Gr.refl j) (.int _)⟩
    | _ => exact hq.elim
theorem z_sumT2 {a b : Int} {Q : D → Prop} : cSumT [.tup [.int a, .int b]] Q = Q (.int (a + b)) := by
  show Q (.int (a + (b + 0))) = _
  rw [Int.add_zero]
end
end DL
namespace DL
open PySem PySem.Spec PyProof.Rows L2 Evl
/-! zip of a list and a tuple -/
def ItzM (K : PySem.W.Frag) (a b : Addr) (n1 n2 : Nat) : It :=
  ⟨fun i H => ∃ (xs ys : List V) (x y : V), SqL K H a xs ∧ SqT K H b ys ∧ xs.length = n1 ∧ ys.length = n2 ∧ xs[i]? = some x ∧ ys[i]? = some y,
    fun i H v H' => ∃ T x y, v = .ref T ∧ H T = none ∧ H' = upd H T (.tup [x, y]) ∧ (∀ xs, SqL K H a xs → xs[i]? = some x) ∧ ∀ ys, SqT K H b ys → ys[i]? = some y,
    fun i H => ∃ xs ys : List V, SqL K H a xs ∧ SqT K H b ys ∧ xs.length = n1 ∧ ys.length = n2 ∧ (n1 ≤ i ∨ n2 ≤ i)⟩
theorem zip_sep {z TI TO i1 i2 a b : Addr} (D : ZipApart z TI TO i1 i2 a b) : ZipSep2 z TI TO i1 i2 [i1, a] [i2, b] where
  TIz := D.TIz
  TOz := D.TOz
  TITO := D.TITO
  TIi1 := D.TIi1
  mem1 := by simp
  zf1 := by simpa using ⟨Ne.symm D.i1z, Ne.symm D.l1z⟩
  Tf1 := by simpa using ⟨D.TOi1, Ne.symm D.l1TO⟩
  TIi2 := D.TIi2
  mem2 := by simp
  zf2 := by simpa using ⟨Ne.symm D.i2z, Ne.symm D.l2z⟩
  Tf2 := by simpa using ⟨D.TOi2, Ne.symm D.l2TO⟩
  sep1_2 := by simpa using ⟨D.i12, Ne.symm D.l2i1⟩
  sep2_1 := by simpa using ⟨Ne.symm D.i12, Ne.symm D.l1i2⟩
theorem turn_zipM {P : Program} {w : World} {K : PySem.W.Frag} {elts : List Expr} {kk : Nat} {tpos : Pos} {a b z TI TO i1 i2 : Addr} {n1 n2 : Nat} (D : ZipApart z TI TO i1 i2 a b) :
    Turn P w K (.Tuple elts kk tpos) (ItzM K a b n1 n2) [z, TI, TO, i1, i2] z (fun i h => IsZip h z TI TO .none ∧ IsTupOf2 h TI (.ref i1) (.ref i2) ∧ (∃ x y, IsTupOf2 h TO x y) ∧ h.IsListIter i1 a i ∧ h.IsTupleIter i2 b i ∧ i ≤ n1 ∧ i ≤ n2) where
  mem := by simp
  obj := fun i h st c hc => by
    obtain ⟨s1, s2, ⟨x, y, s3⟩, ⟨o1, e1, _, d1⟩, ⟨o2, e2, _, d2⟩, _⟩ := st
    have hc : c = z ∨ c = TI ∨ c = TO ∨ c = i1 ∨ c = i2 := by simpa using hc
    rcases hc with rfl | rfl | rfl | rfl | rfl
    · exact ⟨_, s1, fun v q => nomatch q⟩
    · exact ⟨_, s2, fun v q => nomatch q⟩
    · exact ⟨_, s3, fun v q => nomatch q⟩
    · exact ⟨o1, e1, fun v q => by rw [d1] at q; cases q⟩
    · exact ⟨o2, e2, fun v q => by rw [d2] at q; cases q⟩
  keep := fun i h h' st k => by
    obtain ⟨s1, s2, ⟨x, y, s3⟩, s4, s5, s6⟩ := st
    exact ⟨k z (by simp) _ s1, k TI (by simp) _ s2, ⟨x, y, k TO (by simp) _ s3⟩, s4.at fun o q => k i1 (by simp) o q, s5.at (fun o q => k i2 (by simp) o q), s6⟩
  item := by
    intro X hP hw hK hc i pins s σ H E I hf st hg
    subst hP hw hK
    obtain ⟨s1, s2, ⟨x0, y0, s3⟩, s4, s5, s6, s7⟩ := st
    obtain ⟨xs, ys, x, y, hqx, hqy, hn1, hn2, hx, hy⟩ := hg
    obtain ⟨its, rv, p, _⟩ := I.list hqx
    obtain ⟨its2, rv2, p2, _⟩ := I.tuple hqy
    obtain ⟨u, hu, ru⟩ := rv.get hx
    obtain ⟨u2, hu2, ru2⟩ := rv2.get hy
    have hzl : z < s.heap.objs.size := Heap.lt_size s1
    have hh := I.ok.hd hc
    have hu1 : its.toArray[i]? = some u := by simpa using hu
    have hu3 : its2.toArray[i]? = some u2 := by simpa using hu2
    refine wpAny_pyNext_zipD2_item (i := i) (zip_sep D) (Draws.list (by simp [hh]) i1 a D.l1i1 its.toArray) (Draws.tuple (by simp [hh]) i2 b D.l2i2 its2.toArray) s1 s2 s3 ⟨s4, p.isList⟩ ⟨s5, p2⟩ (Array.getElem?_eq_some_iff.mp hu1).1 (Array.getElem?_eq_some_iff.mp hu3).1 fun v1 v2 h' tk q1 q2 z' TO' t1 t2 hT hsz hk => ?_
    have w1 : v1 = u := Option.some.inj (q1.symm.trans hu1)
    have w2 : v2 = u2 := Option.some.inj (q2.symm.trans hu3)
    subst w1 w2
    refine ⟨_, rfl, wpAny_letOwnedTupleGo_zip (s := { s with heap := h', toks := tk }) z' fun h'' z'' sb => ?_⟩
    have hT2 : h''.get? s.heap.objs.size = some { cls := .type "tuple", data := .seq #[v1, v2] } := (sb.2 _ (Nat.ne_of_gt hzl)).trans hT
    have new : ObjOk X.prog X.w (upd H s.heap.objs.size (.tup [x, y])) h'' s.heap.objs.size (.tup [x, y]) :=
      ⟨by show 2 ≤ sizeLine; decide, [v1, v2], .cons ru (.cons ru2 .nil), ⟨_, hT2, rfl, _, rfl⟩⟩
    have I1 : Inv X pins σ (upd H s.heap.objs.size (.tup [x, y])) { s with heap := h'', toks := tk } :=
      I.turnedNew (t' := tk) (ch := [z, TI, TO, i1, i2]) (fun c o hb q => (sb.2 c (fun q' => hb (by simp [q']))).trans (hk c o (fun q' => hb (by simp [q'])) (fun q' => hb (by simp [q'])) (fun q' => hb (by simp [q'])) (fun q' => hb (by simp [q'])) q)) hf (Nat.le_refl _) new
    refine ⟨.ref s.heap.objs.size, _, I1, rfl, ⟨_, x, y, rfl, I.hok.fresh (Nat.le_refl _), rfl, fun l hl => by rw [I.list_inj hl hqx]; exact hx, fun l hl => by rw [I.tuple_inj hl hqy]; exact hy⟩, ⟨z'', ?_, ⟨v1, v2, ?_⟩, ?_, ?_, ?_, ?_⟩, fun c hcm => ?_⟩
    · exact (sb.2 _ D.TIz).trans (hk _ _ D.TIz D.TITO D.TIi1 D.TIi2 s2)
    · exact (sb.2 _ D.TOz).trans TO'
    · exact t1.1.at fun o q => (sb.2 _ D.i1z).trans q
    · exact t2.1.at fun o q => (sb.2 _ D.i2z).trans q
    · have := (List.getElem?_eq_some_iff.mp hx).1; omega
    · have := (List.getElem?_eq_some_iff.mp hy).1; omega
    · have hlt : c < s.heap.objs.size := by
        have hcm : c = z ∨ c = TI ∨ c = TO ∨ c = i1 ∨ c = i2 := by simpa using hcm
        rcases hcm with rfl | rfl | rfl | rfl | rfl
        · exact hzl
        · exact Heap.lt_size s2
        · exact Heap.lt_size s3
        · obtain ⟨_, e1, _⟩ := s4; exact Heap.lt_size e1
        · obtain ⟨_, e2, _⟩ := s5; exact Heap.lt_size e2
      rw [upd_ne (Nat.ne_of_lt hlt)]
      exact (hf c hcm).1
  done := by
    intro X hP hw hK hc i pins s σ H E I hf st hg
    subst hP hw hK
    obtain ⟨s1, s2, ⟨x0, y0, s3⟩, s4, s5, s6, s7⟩ := st
    obtain ⟨xs, ys, hqx, hqy, hn1, hn2, hend⟩ := hg
    obtain ⟨its, rv, p, _⟩ := I.list hqx
    obtain ⟨its2, rv2, p2, _⟩ := I.tuple hqy
    have l1 := rv.length
    have l2 := rv2.length
    have l3 : its.toArray.size = its.length := by simp
    have l4 : its2.toArray.size = its2.length := by simp
    have hh := I.ok.hd hc
    exact wpAny_pyNext_zipD2_end (i := i) (zip_sep D) (Draws.list (by simp [hh]) i1 a D.l1i1 its.toArray) (Draws.tuple (by simp [hh]) i2 b D.l2i2 its2.toArray) s1 s2 s3 ⟨s4, p.isList⟩ ⟨s5, p2⟩ (by omega) (by omega) (by omega) fun h' tk hk => ⟨rfl, I.turnedL (t' := tk) (ch := [z, TI, TO, i1, i2]) (fun c o hb q =>
      hk c o (fun q' => hb (by simp [q'])) (fun q' => hb (by simp [q'])) (fun q' => hb (by simp [q'])) (fun q' => hb (by simp [q'])) q) hf⟩
  self := fun A i s Q E st h => wpAny_pyIter_zip st.1 h
def tZipM (K : PySem.W.Frag) (ta : TA) : TI := fun σ H R => ta σ H fun vs H1 => ∃ a b xs ys, vs = [.ref a, .ref b] ∧ SqL K H1 a xs ∧ SqT K H1 b ys ∧ R (ItzM K a b xs.length ys.length) H1
theorem pi_zipM {X : Cx} {e e2 : Expr} {ta : TA} {p pos tpos : Pos} {elts : List Expr} {kk : Nat} (hg : Gl X "zip") (hm : X.mg "zip" = none) (ha : PA X [e, e2] ta)
    (hs : starEach [e, e2] X.env = (false, eval e X.env) :: starEach [e2] X.env := by rfl) (hpl : (backTo pos (starEach [e2] X.env)).any (·.1) = false := by rfl) :
    PI X (.Tuple elts kk tpos) (.Call (.Name "zip" p) [e, e2] [] pos) (tZipM X.K ta) := by
  refine ⟨fun pins s σ H R I h => ?_⟩
  refine Call_ (ld_blt I hg hm PyProof.Rows.boot_zip (PyProof.Rows.callWith_type1 (thn (ha.run pos pins s σ H _ I h) fun us s1 ⟨vs, H1, I1, r1, q1⟩ => ?_) hs hpl))
  obtain ⟨a, b, xs, ys, ex, hqx, hqy, q⟩ := q1
  subst ex
  cases r1 with
  | cons r rr =>
    cases rr with
    | cons r' rr =>
      cases rr
      cases r
      cases r'
      obtain ⟨its, rv, p1, _⟩ := I1.list hqx
      obtain ⟨its2, rv2, p2, _⟩ := I1.tuple hqy
      obtain ⟨o2, ho2, _⟩ := id p2
      refine zip_begins2 (begins_list a its.toArray) (begins_tuple b its2.toArray) p1.isList p2 fun h' hz hTI hTO h1 h2 hsz hk => wpAny_pyIter_zip hz ?_
      have I2 : Inv X pins σ H1 { s1 with heap := h' } := I1.kept (t' := s1.toks) hk
      refine ⟨s1.heap.objs.size + 4, [s1.heap.objs.size + 4, s1.heap.objs.size + 2, s1.heap.objs.size + 3, s1.heap.objs.size, s1.heap.objs.size + 1], _, _, H1, rfl, I2, turn_zipM (PySem.W.ktu_apart s1.heap.objs.size a b p1.lt (Heap.lt_size ho2)), ⟨hz, hTI, ⟨_, _, hTO⟩, ⟨_, h1, rfl, rfl⟩, ⟨_, h2, rfl, rfl⟩, Nat.zero_le _, Nat.zero_le _⟩, fun c hcm => ?_, q⟩
      have hle : s1.heap.objs.size ≤ c := by
        have : c = s1.heap.objs.size + 4 ∨ c = s1.heap.objs.size + 2 ∨ c = s1.heap.objs.size + 3 ∨ c = s1.heap.objs.size ∨ c = s1.heap.objs.size + 1 := by simpa using hcm
        rcases this with z | z | z | z | z
        · rw [z]; exact Nat.le_add_right _ _
        · rw [z]; exact Nat.le_add_right _ _
        · rw [z]; exact Nat.le_add_right _ _
        · rw [z]; exact Nat.le_refl _
        · rw [z]; exact Nat.le_add_right _ _
      exact I1.fpOk hle (I1.hok.fresh hle)
section
variable {X : Cx} {B : Bx} {e e2 : Expr} {pos : Pos}
/-! the same over data -/
def zipD (xs ys : List D) : List D := (xs.zip ys).map fun z => .tup [z.1, z.2]
theorem zipD_len (xs ys : List D) : (zipD xs ys).length = min xs.length ys.length := by simp [zipD]
theorem zipD_at {xs ys : List D} {i : Nat} {d : D} (h : (zipD xs ys)[i]? = some d) : ∃ x y, xs[i]? = some x ∧ ys[i]? = some y ∧ d = .tup [x, y] := by
  unfold zipD at h
  rw [List.getElem?_map] at h
  cases hx : (xs.zip ys)[i]? with
  | none => rw [hx] at h; cases h
  | some z =>
    rw [hx] at h
    have hz := List.getElem?_zip_eq_some.mp hx
    exact ⟨z.1, z.2, hz.1, hz.2, (Option.some.inj h).symm⟩
def zipMD (ds : List D) (Q : List D → Prop) : Prop := match ds with
  | [.lst xs, .tup ys] => Q (zipD xs ys)
  | _ => False
def iZipM (ra : DA) : DA := fun δ Q => ra δ fun ds => zipMD ds Q
theorem itd_zipM {K : PySem.W.Frag} {G : Hp} {a b : Addr} {xs ys : List V} {ds es : List D} (h : G a = some (.lst xs)) (hd : Dats K B G xs ds) (h2 : G b = some (.tup ys)) (he : Dats K B G ys es) : ItD K B (ItzM K a b xs.length ys.length) G (zipD ds es) where
  go := fun i G1 H e j hi => by
    rw [zipD_len] at hi
    have l1 := hd.len
    have l2 := he.len
    exact ⟨xs, ys, xs[i]'(by omega), ys[i]'(by omega), sq_of (j.ex _ _ (e _ _ h)), tx (K := K) j.ex (e _ _ h2), rfl, rfl, by simp, by simp⟩
  yld := fun i G1 H x H' d e j y hi => by
    obtain ⟨T, u, v, rfl, hT, rfl, y1, y2⟩ := y
    obtain ⟨p, q, hp, hq, rfl⟩ := zipD_at hi
    have q1 := y1 xs (sq_of (j.ex _ _ (e _ _ h)))
    have q2 := y2 ys (tx (K := K) j.ex (e _ _ h2))
    obtain ⟨w, a1, a2⟩ := hd.get hp
    obtain ⟨w2, b1, b2⟩ := he.get hq
    rw [q1] at a1
    rw [q2] at b1
    cases a1
    cases b1
    have g := Gr.new (o := .tup [u, v]) j hT
    exact ⟨_, g, .tup upd_same (.cons (a2.mono (e.trans g.ex)) (.cons (b2.mono (e.trans g.ex)) .nil))⟩
  stop := fun i G1 H e j hi => by
    rw [zipD_len] at hi
    have l1 := hd.len
    have l2 := he.len
    exact ⟨xs, ys, sq_of (j.ex _ _ (e _ _ h)), tx (K := K) j.ex (e _ _ h2), rfl, rfl, by omega⟩
theorem pid_zipM {elts : List Expr} {kk : Nat} {ra : DA} {p tpos : Pos} (hg : Gl X "zip") (hm : X.mg "zip" = none) (ha : PAD X B [e, e2] ra) (hs : starEach [e, e2] X.env = (false, eval e X.env) :: starEach [e2] X.env := by rfl) (hpl : (backTo pos (starEach [e2] X.env)).any (·.1) = false := by rfl) :
    PID X B (.Tuple elts kk tpos) (.Call (.Name "zip" p) [e, e2] [] pos) (iZipM ra) :=
  ⟨fun pins s σ H R I h => (pi_zipM (elts := elts) (kk := kk) (tpos := tpos) hg hm ha hs hpl).run pins s σ H R I (by
    obtain ⟨H0, G, δ, Q, j, st, hr, k⟩ := h
    refine ⟨H0, G, δ, _, j, st, hr, fun ds vs G2 H2 q2 g2 h2 => ?_⟩
    cases h2 with
    | nil => exact q2.elim
    | cons h3 h4 =>
      cases h4 with
      | nil => cases h3 <;> exact q2.elim
      | cons h5 h6 =>
        cases h6 with
        | cons _ _ => cases h3 <;> cases h5 <;> exact q2.elim
        | nil =>
          cases h3 with
          | lst a1 a2 =>
            cases h5 with
            | tup b1 b2 => exact ⟨_, _, _, _, rfl, sq_of (g2.j.ex _ _ a1), tx (K := X.K) g2.j.ex b1, k _ _ G2 H2 q2 g2 (itd_zipM a1 a2 b1 b2)⟩
            | _ => exact q2.elim
          | _ => cases h5 <;> exact q2.elim)⟩
theorem z_zipM {ra : DA} {δ : DS} {Q : List D → Prop} : iZipM ra δ Q = ra δ fun ds => zipMD ds Q := propext Iff.rfl
theorem z_zipMD {xs ys : List D} {Q : List D → Prop} : zipMD [.lst xs, .tup ys] Q = Q (zipD xs ys) := propext Iff.rfl
theorem zipD2 (a b c d : D) : zipD [a, b] [c, d] = [.tup [a, c], .tup [b, d]] := rfl
end
end DL
namespace DL
open PySem PySem.Spec PyProof.Rows L2 Evl
/-! self.a, self.b, .. = e -/
def putsD : List Nat → List D → List (Option D) → List (Option D)
  | m :: ms, d :: ds, fs => putsD ms ds (putD m d fs)
  | _, _, fs => fs
def gAs (K : PySem.W.Frag) (i : Nat) (C : Addr) : List Nat → TGs
  | [] => gNil
  | m :: ms => gCons (gA K i m C) (gAs K i C ms)
def nwD (i C : Nat) (δ : DS) (P : Addr → List (Option D) → Prop) : Prop := match δ[i]? with
  | some (some (.nw x C' fs)) => (C' = C ∧ oneNw i δ = true) ∧ P x fs
  | _ => False
def dSelfN (i C : Nat) (ms : List Nat) (r : DE) : DTS := fun W δ => r δ fun d => tupD d ms.length fun ds => nwD i C δ fun x fs => W.nx (δ.set i (some (.nw x C (putsD ms ds fs))))
theorem z_selfN {i C : Nat} {ms : List Nat} {r : DE} {W : DEnds} {δ : DS} : dSelfN i C ms r W δ = r δ fun d => tupD d ms.length fun ds => nwD i C δ fun x fs => W.nx (δ.set i (some (.nw x C (putsD ms ds fs)))) := propext Iff.rfl
theorem z_nwD {C : Nat} {δ : DS} {x : Addr} {fs : List (Option D)} {P : Addr → List (Option D) → Prop} (h : oneNw 0 (some (.nw x C fs) :: δ) = true) : nwD 0 C (some (.nw x C fs) :: δ) P = P x fs := by
  show ((C = C ∧ oneNw 0 _ = true) ∧ P x fs) = _
  rw [h]
  simp
theorem set_opt {α : Type} {l : List α} {i : Nat} {o : α} (h : l[i]? = some o) : l.set i o = l := by
  apply List.ext_getElem?
  intro j
  by_cases hj : i = j
  · subst hj
    rw [List.getElem?_set_self (List.getElem?_eq_some_iff.mp h).1, h]
  · rw [List.getElem?_set_ne hj]
section
variable {K : PySem.W.Frag} {B : Bx} {G0 H0 G : Hp} {σ : L2.St} {i C : Nat} {x : Addr} {R : L2.St → Hp → Prop}
theorem as_run : ∀ (ms : List Nat) {vs : List V} {ds : List D} {H : Hp} {δ : DS} {fs : List (Option D)} {F : Nat → List Addr}, Dats K B G vs ds → ds.length = ms.length → Gr K B G0 H0 G H → StF K B H0 G H σ δ F → δ[i]? = some (some (.nw x C fs)) →
    (∀ H', Gr K B G0 H0 G H' → StOk K B H0 G H' σ (δ.set i (some (.nw x C (putsD ms ds fs)))) → R σ H') → gAs K i (B.ct C) ms vs σ H R
  | [], _, _, H, δ, fs, F, .nil, _, g, y, hi, k => ⟨rfl, k H g (by
      show StOk K B H0 G H σ (δ.set i (some (.nw x C fs)))
      rw [set_opt hi]
      exact ⟨F, y⟩)⟩
  | [], _, _, _, _, _, _, .cons _ _, hl, _, _, _, _ => nomatch hl
  | _ :: _, _, _, _, _, _, _, .nil, hl, _, _, _, _ => nomatch hl
  | m :: ms, _, _, H, δ, fs, F, .cons (v := v) (d := d) (ds := ds) hv ht, hl, g, y, hi, k => by
    obtain ⟨dx, vs, a1, nn, hF⟩ := StF.nw y hi
    refine ⟨_, _, rfl, x, dx, vs, a1, nn.sl, ?_⟩
    have s3 := st_put (m := m) y hi a1 nn hF hv
    have hi' : (δ.set i (some (.nw x C (putD m d fs))))[i]? = some (some (.nw x C (putD m d fs))) := List.getElem?_set_self (List.getElem?_eq_some_iff.mp hi).1
    refine as_run ms ht (Nat.succ.inj hl) (nw_gr g nn (SlX.putS m v vs)) s3 hi' fun H' g' s' => k H' g' ?_
    rw [List.set_set] at s'
    exact s'
end
section
variable {X : Cx} {B : Bx} {e : Expr} {r : DE} {pos : Pos} {i C : Nat}
/-- the targets self.a, self.b, .. -/
structure PAs (X : Cx) (B : Bx) (i C : Nat) (es : List Expr) (ms : List Nat) : Prop where
  ok : PGs X es (gAs X.K i (B.ct C) ms)
theorem pas_nil : PAs X B i C [] [] := ⟨pgs_nil⟩
theorem pas_cons {o : Expr} {es : List Expr} {ms : List Nat} {f : Str} {m : Nat} {p : Pos} (c : SlX.SCls X.K (B.ct C)) (t : SlotAt X.K (B.ct C) f m) (ho : PE X o (tVar i)) (h : PAs X B i C es ms)
    (hs : (assignEach (.Attribute o f p :: es) X.env).map (·.2) = assign (.Attribute o f p) X.env :: (assignEach es X.env).map (·.2) := by rfl) : PAs X B i C (.Attribute o f p :: es) (m :: ms) := by
  obtain ⟨q, t1⟩ := t.ex
  exact ⟨pgs_cons (pg_attr c t1 ho) h.ok hs⟩
theorem psd_selfN {es : List Expr} {ms : List Nat} {k1 : Nat} {pt : Pos} (hc : X.calm = true) (h : PAs X B i C es ms) (he : PD X B e r)
    (hn : (assignEach es X.env).length = ms.length := by rfl) (hst : (assignEach es X.env).findIdx? (·.1) = none := by rfl)
    (hs : swapsWithSole [.Tuple es k1 pt] e pos.line X.env = pure false := by rfl) (hw : swappedStores [.Tuple es k1 pt] e X.env = pure none := by rfl) (h1 : (assignEach [.Tuple es k1 pt] X.env).map (·.2) = [assign (.Tuple es k1 pt) X.env] := by rfl) :
    PSD X B (.Assign [.Tuple es k1 pt] e pos) (dSelfN i C ms r) := ps_mono (ps_asg he (pg_tup hc h.ok hn hst) hs hw h1) fun E σ H q => by
  obtain ⟨G0, H0, G, δ, W, g, s, h, k⟩ := q
  refine at_stmt g s h fun d v G2 H2 q2 g2 e2 s2 h2 => ?_
  cases h2 with
  | @tup a xs ds h3 h4 =>
    have q2 : (match decide (ds.length = ms.length) with | true => nwD i C δ fun x fs => W.nx (δ.set i (some (.nw x C (putsD ms ds fs)))) | false => False) := q2
    cases hz : decide (ds.length = ms.length) with
    | false => rw [hz] at q2; exact q2.elim
    | true =>
      rw [hz] at q2
      have hl := of_decide_eq_true hz
      have q2 : (match δ[i]? with | some (some (.nw x C' fs)) => (C' = C ∧ oneNw i δ = true) ∧ W.nx (δ.set i (some (.nw x C (putsD ms ds fs)))) | _ => False) := q2
      cases h1 : δ[i]? with
      | none => rw [h1] at q2; exact q2.elim
      | some z =>
        cases z with
        | none => rw [h1] at q2; exact q2.elim
        | some y =>
          cases y with
          | sh _ => rw [h1] at q2; exact q2.elim
          | ow _ _ => rw [h1] at q2; exact q2.elim
          | nw x C' fs =>
            rw [h1] at q2
            obtain ⟨⟨rfl, one⟩, q2⟩ := q2
            obtain ⟨F, y⟩ := s2.ex
            refine ⟨a, xs, rfl, tx g2.j.ex h3, h4.len.trans hl, as_run ms h4 hl g2 y h1 fun H' g' s' => ?_⟩
            exact k.nx _ _ G2 _ q2 g' e2 s'
  | _ => exact q2.elim
end
/-! comprehensions with two fors -/
section
variable {K : PySem.W.Frag} {B : Bx} {H0 G H : Hp} {σ : L2.St} {δ : DS} {p : Addr} {o : HO}
theorem StOk.up0 (x : StOk K B H0 G H σ δ) (hp : H p = none) : StOk K B (upd H0 p o) G H σ δ := by
  obtain ⟨F, y⟩ := x.ex
  refine ⟨F, y.len, fun i ov od h1 h2 => ?_, y.dj⟩
  have q := y.at_ i ov od h1 h2
  generalize F i = f at q
  have ne : ∀ b, H b ≠ none → H0 b = none → upd H0 p o b = none := fun b hb h0 => by
    rw [upd_ne fun z => hb (by rw [z]; exact hp)]
    exact h0
  have at_ := q.at
  cases q with
  | no => exact .no
  | sh h => exact .sh h
  | ow h n q => exact .ow h n fun b hb => ⟨ne b (at_ b hb).1.ne (q b hb).1, (q b hb).2⟩
  | @nw a dx C vs fs n =>
    exact .nw { n with hx := ne a (at_ a (by simp)).1.ne n.hx, hd := ne dx (at_ dx (by simp)).1.ne n.hd }
theorem StOk.past (x : StOk K B H0 G H σ δ) (hp : H0 p ≠ none) : StOk K B H0 G (upd H p o) σ δ := by
  obtain ⟨F, y⟩ := x.ex
  refine ⟨F, y.len, fun i ov od h1 h2 => ?_, y.dj⟩
  have q := y.at_ i ov od h1 h2
  exact q.keep (Ex.refl G) fun b hb => ⟨upd_ne fun z => hp (by rw [← z]; exact (q.at b hb).2.2.2), rfl⟩
end
def lcD2 (g : DG) (tt : DT) (ri1 : DA) (g1 : DG) (tt1 : DT) (te : DE) (vs1 : List Nat) (δ : DS) (Q : List D → Prop) : List D → List D → Prop
  | [], acc => Q acc
  | d :: ds, acc => g d δ fun δ' => tt δ' fun b => if b = true then ri1 δ' fun es => acc.length + es.length ≤ sizeLine ∧ lcD g1 tt1 te (wipeD δ' vs1) (fun acc' => lcD2 g tt ri1 g1 tt1 te vs1 δ Q ds acc') es acc else lcD2 g tt ri1 g1 tt1 te vs1 δ Q ds acc
def fLc2 (ri : DA) (g : DG) (tt : DT) (ri1 : DA) (g1 : DG) (tt1 : DT) (te : DE) (vs vs1 : List Nat) : DA := fun δ Q => ri δ fun ds => lcD2 g tt ri1 g1 tt1 te vs1 (wipeD δ vs) Q ds []
theorem z_lc2 {ri : DA} {g : DG} {tt : DT} {ri1 : DA} {g1 : DG} {tt1 : DT} {te : DE} {vs vs1 : List Nat} {δ : DS} {Q : List D → Prop} : fLc2 ri g tt ri1 g1 tt1 te vs vs1 δ Q = ri δ fun ds => lcD2 g tt ri1 g1 tt1 te vs1 (wipeD δ vs) Q ds [] := propext Iff.rfl
section
variable {X : Cx} {B : Bx}
theorem lift_lc2 {K : PySem.W.Frag} {ri ri1 : DA} {g g1 : DG} {is is1 : List Nat} {tt tt1 : DT} {te : DE} {vs vs1 : List Nat} {σ : L2.St} {H : Hp} {P : VK} (hv : ∀ i ∈ is, i ∈ vs) (hv1 : ∀ i ∈ is1, i ∈ vs1) (q : liftF K B (fLc2 ri g tt ri1 g1 tt1 te vs vs1) σ H P) :
    tLc2 (liftI K B ri) (liftG K B is g) (liftT K B tt) (liftI K B ri1) (liftG K B is1 g1) (liftT K B tt1) (liftE K B te) vs vs1 σ H P := by
  obtain ⟨H0, G, δ, Q, j, st, hr, k⟩ := q
  refine ⟨H0, G, δ, _, j, st, hr, fun ds J G2 H2 q2 g2 it p hp => ?_⟩
  have nb : p ≠ B.b := Gr.neB g2.j hp
  have gp : G2 p = none := fresh_back g2.j.ex hp
  have st2 : StOk K B (upd H0 p (.lst [])) G2 H2 σ δ := (st.gr g2).up0 hp
  have p0 : upd H0 p (.lst []) p ≠ none := by rw [upd_same]; simp
  generalize upd H0 p (HO.lst []) = H0' at st2 p0
  refine ⟨fun i m H' => i + m = ds.length ∧ ∃ G' acc accD, Gr K B G2 H2 G' H' ∧ G' p = none ∧ H' p = some (.lst acc) ∧ Dats K B G' acc accD ∧ lcD2 g tt ri1 g1 tt1 te vs1 (wipeD δ vs) Q (ds.drop i) accD,
    ⟨ds.length, by omega, G2, [], [], Gr.new0 g2.j hp, gp, upd_same, .nil, q2⟩, fun i m H' hw => ?_⟩
  obtain ⟨em, G', acc, accD, gr, gp', hp', ha, hf⟩ := hw
  by_cases hlt : i < ds.length
  · refine .inr ⟨it.go i G' H' gr.ex gr.j hlt, fun H1 => ∃ G1 acc accD, Gr K B G2 H2 G1 H1 ∧ G1 p = none ∧ H1 p = some (.lst acc) ∧ Dats K B G1 acc accD ∧ lcD2 g tt ri1 g1 tt1 te vs1 (wipeD δ vs) Q (ds.drop (i + 1)) accD, fun H1 hn => ⟨m - 1, by omega, by omega, hn⟩, fun x H1 hy => ?_⟩
    have hd : ds[i]? = some ds[i] := List.getElem?_eq_getElem hlt
    obtain ⟨G3, g3, hx⟩ := it.yld i G' H' x H1 _ gr.ex gr.j hy hd
    rw [List.drop_eq_getElem_cons hlt] at hf
    have hpn : Mu H' p := ⟨_, hp', fun _ z => by cases z⟩
    refine ⟨H0', G3, wipeD δ vs, ds[i], _, g3.j, (st2.gr (gr.trans g3)).wipe vs, hx, hf, fun σ2 δ2 q3 s3 u3 => ?_⟩
    refine ⟨by rw [u3.wipe hv, wipe_wipe], H0', G3, δ2, _, g3.j, s3, q3, fun b G4 H4 q4 g4 => ?_⟩
    have g34 := g3.trans g4
    have gp4 : G4 p = none := by rw [g34.old p hpn]; exact gp'
    have hp4 := g34.keep p _ nb hp'
    have ha4 := ha.mono g34.ex
    cases b with
    | false => exact ⟨G4, acc, accD, gr.trans g34, gp4, hp4, ha4, q4⟩
    | true =>
      refine ⟨H0', G4, δ2, _, g4.j, s3.gr g4, q4, fun es J1 G5 H5 q5 g5 it1 => ?_⟩
      obtain ⟨hz, q5⟩ := q5
      have hpn4 : Mu H4 p := ⟨_, hp4, fun _ z => by cases z⟩
      refine ⟨fun i1 m1 H' => i1 + m1 = es.length ∧ ∃ G' acc1 accD1, Ex G5 G' ∧ Gr K B G2 H2 G' H' ∧ StOk K B H0' G' H' σ2 δ2 ∧ G' p = none ∧ H' p = some (.lst acc1) ∧ Dats K B G' acc1 accD1 ∧ acc1.length ≤ acc.length + i1 ∧ lcD g1 tt1 te (wipeD δ2 vs1) (fun a => lcD2 g tt ri1 g1 tt1 te vs1 (wipeD δ vs) Q (ds.drop (i + 1)) a) (es.drop i1) accD1,
        ⟨es.length, by omega, G5, acc, accD, Ex.refl _, gr.trans (g34.trans g5), (s3.gr g4).gr g5, by rw [g5.old p hpn4]; exact gp4, g5.keep p _ nb hp4, ha4.mono g5.ex, Nat.le_refl _, q5⟩, fun i1 m1 H6 hw => ?_⟩
      obtain ⟨em1, G6, acc1, accD1, ex6, gr6, st6, gp6, hp6, ha6, hl6, hf6⟩ := hw
      by_cases hlt1 : i1 < es.length
      · refine .inr ⟨it1.go i1 G6 H6 ex6 gr6.j hlt1, fun H1 => ∃ G' acc1 accD1, Ex G5 G' ∧ Gr K B G2 H2 G' H1 ∧ StOk K B H0' G' H1 σ2 δ2 ∧ G' p = none ∧ H1 p = some (.lst acc1) ∧ Dats K B G' acc1 accD1 ∧ acc1.length ≤ acc.length + (i1 + 1) ∧ lcD g1 tt1 te (wipeD δ2 vs1) (fun a => lcD2 g tt ri1 g1 tt1 te vs1 (wipeD δ vs) Q (ds.drop (i + 1)) a) (es.drop (i1 + 1)) accD1, fun H1 hn => ⟨m1 - 1, by omega, by omega, hn⟩, fun x1 H7 hy1 => ?_⟩
        have hd1 : es[i1]? = some es[i1] := List.getElem?_eq_getElem hlt1
        obtain ⟨G7, g7, hx1⟩ := it1.yld i1 G6 H6 x1 H7 _ ex6 gr6.j hy1 hd1
        rw [List.drop_eq_getElem_cons hlt1] at hf6
        have hpn6 : Mu H6 p := ⟨_, hp6, fun _ z => by cases z⟩
        refine ⟨H0', G7, wipeD δ2 vs1, es[i1], _, g7.j, (st6.gr g7).wipe vs1, hx1, hf6, fun σ8 δ8 q8 s8 u8 => ?_⟩
        refine ⟨by rw [u8.wipe hv1, wipe_wipe], H0', G7, δ8, _, g7.j, s8, q8, fun b G9 H9 q9 g9 => ?_⟩
        have g79 := g7.trans g9
        cases b with
        | false =>
          exact ⟨G9, acc1, accD1, ex6.trans g79.ex, gr6.trans g79, st6.gr g79, by rw [g79.old p hpn6]; exact gp6, g79.keep p _ nb hp6, ha6.mono g79.ex, by omega, q9⟩
        | true =>
          refine ⟨H0', G9, δ8, _, g9.j, s8.gr g9, q9, fun y u G10 H10 q10 g10 h10 => ?_⟩
          have g710 := g79.trans g10
          have gp10 : G10 p = none := by rw [g710.old p hpn6]; exact gp6
          have hz' : accD1.length + es.length ≤ sizeLine + accD1.length := by omega
          have hl0 := ha.len
          refine ⟨acc1, g710.keep p _ nb hp6, by omega, G10, _, _, ex6.trans g710.ex, (gr6.trans g710).own hp gp10 nb, (st6.gr g710).past p0, gp10, upd_same, (ha6.mono g710.ex).append (.cons h10 .nil), ?_, q10⟩
          rw [List.length_append]
          show acc1.length + 1 ≤ _
          omega
      · have e : i1 = es.length := by omega
        subst e
        rw [List.drop_length] at hf6
        exact .inl ⟨it1.stop _ G6 H6 ex6 gr6.j (Nat.le_refl _), G6, acc1, accD1, gr6, gp6, hp6, ha6, hf6⟩
  · have e : i = ds.length := by omega
    subst e
    rw [List.drop_length] at hf
    exact .inl ⟨it.stop _ G' H' gr.ex gr.j (Nat.le_refl _), k _ p acc G' H' hf (g2.trans gr) (g2.free hp) gp' hp' ha⟩
theorem pf_lc2 {elt tg iter tg1 iter1 : Expr} {ifs ifs1 : List Expr} {scope : Scope} {own : List (Str × Nat)} {vs1 : List Nat} {pos : Pos} {ri ri1 : DA} {g g1 : DG} {is is1 : List Nat} {tt tt1 : DT} {te : DE} (hc : X.calm = true) (hN : X.N.Nodup) (hi : PID X B tg iter ri) (ok : BlkOk X.N X.env.scope scope own) (hv : ∀ i ∈ is, i ∈ own.map (·.2)) (hv1 : ∀ i ∈ is1, i ∈ vs1) (hw : ∀ i ∈ vs1, i ∈ own.map (·.2))
    (hg : ∀ (s : Shared) (H : Hp) (C : Addr) (cl : List (Str × Addr)) (fp : List Addr), PGD (X.blk s H scope (compEnvC scope cl C X.env) fp) B tg is g) (ht : ∀ (s : Shared) (H : Hp) (C : Addr) (cl : List (Str × Addr)) (fp : List Addr), PTsD (X.blk s H scope (compEnvC scope cl C X.env) fp) B ifs tt)
    (hi1 : ∀ (s : Shared) (H : Hp) (C : Addr) (cl : List (Str × Addr)) (fp : List Addr), PID (X.blk s H scope (compEnvC scope cl C X.env) fp) B tg1 iter1 ri1)
    (hg1 : ∀ (s : Shared) (H : Hp) (C : Addr) (cl : List (Str × Addr)) (fp : List Addr), PGD (X.blk s H scope (compEnvC scope cl C X.env) fp) B tg1 is1 g1) (ht1 : ∀ (s : Shared) (H : Hp) (C : Addr) (cl : List (Str × Addr)) (fp : List Addr), PTsD (X.blk s H scope (compEnvC scope cl C X.env) fp) B ifs1 tt1)
    (he : ∀ (s : Shared) (H : Hp) (C : Addr) (cl : List (Str × Addr)) (fp : List Addr), PD (X.blk s H scope (compEnvC scope cl C X.env) fp) B elt te) (hs : ∀ x, foldedSetIterable iter X.env x = pure x := by intro _; rfl) (hs1 : ∀ env x, foldedSetIterable iter1 env x = pure x := by intro _ _; rfl) :
    PF X B (.ListComp elt [⟨tg, iter, ifs, 0⟩, ⟨tg1, iter1, ifs1, 0⟩] scope pos) (fLc2 ri g tt ri1 g1 tt1 te (own.map (·.2)) vs1) := pe_mono (pe_lc2 hc hN hi ok hw hg ht hi1 hg1 ht1 he hs hs1) fun _ _ _ q => lift_lc2 hv hv1 q
theorem psd_setLc2 {i : Nat} {y : Str} {py : Pos} {elt tg iter tg1 iter1 : Expr} {ifs ifs1 : List Expr} {scope : Scope} {own : List (Str × Nat)} {vs1 : List Nat} {pos spos : Pos} {ri ri1 : DA} {g g1 : DG} {is is1 : List Nat} {tt tt1 : DT} {te : DE} (hc : X.calm = true) (hN : X.N.Nodup) (hy : X.N[i]? = some y) (hyl : X.env.scope.names.lookup y = some .local)
    (hsw : swapsWith (.ListComp elt [⟨tg, iter, ifs, 0⟩, ⟨tg1, iter1, ifs1, 0⟩] scope pos) (some (.Name y py)) spos.line X.env = pure true) (hi : PID X B tg iter ri) (ok : BlkOk X.N X.env.scope scope own) (hv : ∀ i ∈ is, i ∈ own.map (·.2)) (hv1 : ∀ i ∈ is1, i ∈ vs1) (hw : ∀ i ∈ vs1, i ∈ own.map (·.2))
    (hg : ∀ (s : Shared) (H : Hp) (C : Addr) (cl : List (Str × Addr)) (fp : List Addr), PGD (X.blk s H scope (compEnvC scope cl C X.env) fp) B tg is g) (ht : ∀ (s : Shared) (H : Hp) (C : Addr) (cl : List (Str × Addr)) (fp : List Addr), PTsD (X.blk s H scope (compEnvC scope cl C X.env) fp) B ifs tt)
    (hi1 : ∀ (s : Shared) (H : Hp) (C : Addr) (cl : List (Str × Addr)) (fp : List Addr), PID (X.blk s H scope (compEnvC scope cl C X.env) fp) B tg1 iter1 ri1)
    (hg1 : ∀ (s : Shared) (H : Hp) (C : Addr) (cl : List (Str × Addr)) (fp : List Addr), PGD (X.blk s H scope (compEnvC scope cl C X.env) fp) B tg1 is1 g1) (ht1 : ∀ (s : Shared) (H : Hp) (C : Addr) (cl : List (Str × Addr)) (fp : List Addr), PTsD (X.blk s H scope (compEnvC scope cl C X.env) fp) B ifs1 tt1)
    (he : ∀ (s : Shared) (H : Hp) (C : Addr) (cl : List (Str × Addr)) (fp : List Addr), PD (X.blk s H scope (compEnvC scope cl C X.env) fp) B elt te) (hs : ∀ x, foldedSetIterable iter X.env x = pure x := by intro _; rfl) (hs1 : ∀ env x, foldedSetIterable iter1 env x = pure x := by intro _ _; rfl) :
    PSD X B (.Assign [.Name y py] (.ListComp elt [⟨tg, iter, ifs, 0⟩, ⟨tg1, iter1, ifs1, 0⟩] scope pos) spos) (dSet i (dF (fLc2 ri g tt ri1 g1 tt1 te (own.map (·.2)) vs1))) := ps_mono (ps_setLc2 hc hN hy hyl hsw hi ok hw hg ht hi1 hg1 ht1 he hs hs1) fun E σ H q => by
  obtain ⟨G0, H0, G, δ, W, g0, s, h, k⟩ := q
  refine lift_lc2 hv hv1 ⟨H0, G, δ, _, g0.j, s, h, fun ds p vs G2 H2 q2 g2 hp gp h2 hd => ?_⟩
  have g3 := g2.frz hp gp (Gr.neB g0.j hp) h2
  exact k.nx _ _ _ _ q2 (g0.trans g3) g3.ex ((s.gr g3).set (.lst upd_same (hd.mono (Ex.new gp))))
end
end DL
namespace DL
open PySem PySem.Spec PyProof.Rows L2 Evl
/-! x in xs, xs.index(x): lists of lists and tuples -/
theorem room_u65 {k : Nat} {A : Around} (h : Room k A) : A.units + 65 < cLine := by have := h.un; omega
def oInP (neg : Bool) : O2 := fun x y Q => match y with
  | .lst ys => (plain x = true ∧ plain (.lst ys) = true) ∧ Q (.bl (if neg then !ys.any (fun z => eqb z x) else ys.any fun z => eqb z x))
  | _ => False
theorem pyL_map : ∀ xs : List D, pyL xs = xs.map D.py
  | [] => by rw [pyL]; rfl
  | x :: xs => by rw [pyL, pyL_map xs]; rfl
theorem any_py (x : D) : ∀ ys : List D, ((pyL ys).any fun z => PyData.eqv z x.py) = ys.any fun z => eqb z x
  | [] => by rw [pyL]; rfl
  | y :: ys => by rw [pyL, List.any_cons, List.any_cons, any_py x ys]; rfl
theorem op_inP {X : Cx} {B : Bx} (hu : X.A.units + 65 < cLine) : OpR X (compareOp .In) (rLift X.K B (oInP false)) := by
  intro pins s σ H x y v u P I rx ry h
  obtain ⟨G, dx, dy, Q, j, hx, hy, hq, k⟩ := h
  cases dy with
  | lst ys =>
    obtain ⟨⟨px, py⟩, q⟩ := hq
    have e1 := dat_dp j.ex hy (Bool.and_eq_true_iff.mp py).1
    have e2 := plain_shaped py
    rw [D.py] at e1 e2
    refine op_inD hu pins s σ H x y v u P I rx ry ⟨dx.py, pyL ys, dat_dp j.ex hx (Bool.and_eq_true_iff.mp px).1, e1, plain_shaped px, e2, ?_⟩
    rw [any_py]
    exact k _ _ G H q (Gr.refl j) (.bl _)
  | _ => exact hq.elim
theorem op_notInP {X : Cx} {B : Bx} (hu : X.A.units + 65 < cLine) : OpR X (compareOp .NotIn) (rLift X.K B (oInP true)) := by
  intro pins s σ H x y v u P I rx ry h
  obtain ⟨G, dx, dy, Q, j, hx, hy, hq, k⟩ := h
  cases dy with
  | lst ys =>
    obtain ⟨⟨px, py⟩, q⟩ := hq
    have e1 := dat_dp j.ex hy (Bool.and_eq_true_iff.mp py).1
    have e2 := plain_shaped py
    rw [D.py] at e1 e2
    refine op_notInD hu pins s σ H x y v u P I rx ry ⟨dx.py, pyL ys, dat_dp j.ex hx (Bool.and_eq_true_iff.mp px).1, e1, plain_shaped px, e2, ?_⟩
    rw [any_py]
    exact k _ _ G H q (Gr.refl j) (.bl _)
  | _ => exact hq.elim
def mIndexP : OM := fun x ds Q => match x, ds with
  | .lst xs, [d] => (plain (.lst xs) = true ∧ plain d = true) ∧ ∃ (j : Nat) (z : D), xs[j]? = some z ∧ eqb z d = true ∧ (∀ (m : Nat) (z' : D), m < j → xs[m]? = some z' → eqb z' d = false) ∧ Q (.int (j : Nat))
  | _, _ => False
theorem mt_indexP {X : Cx} {B : Bx} (hu : X.A.units + 65 < cLine) : MtR X "list.index" (mLift X.K B mIndexP) := by
  intro pins s σ H x xs v us P I rx rs q
  obtain ⟨G, d, ds, Q, j, hx, hd, hq, k⟩ := q
  cases hd with
  | nil => cases hx <;> exact hq.elim
  | @cons v1 vs1 d1 ds1 h1 h2 =>
    cases h2 with
    | cons _ _ => cases hx <;> exact hq.elim
    | nil =>
      cases hx with
      | @lst a ys es hp t =>
        obtain ⟨⟨p1, p2⟩, n, z, c1, c2, c3, q⟩ := hq
        have e1 := dat_dp (d := .lst es) j.ex (.lst hp t) (Bool.and_eq_true_iff.mp p1).1
        have e2 := plain_shaped p1
        rw [D.py] at e1 e2
        refine mt_indexD hu pins s σ H _ _ v us P I rx rs ⟨a, v1, d1.py, pyL es, n, z.py, rfl, rfl, e1, dat_dp j.ex h1 (Bool.and_eq_true_iff.mp p2).1, e2, plain_shaped p2, ?_, c2, fun m z' hm hz => ?_, k _ _ G H q (Gr.refl j) (.int _)⟩
        · rw [pyL_map, List.getElem?_map, c1]; rfl
        · rw [pyL_map, List.getElem?_map] at hz
          obtain ⟨w, hw, e⟩ := Option.map_eq_some_iff.mp hz
          subst e
          exact c3 m w hm hw
      | _ => exact hq.elim
section
variable {Q : D → Prop} {x d : D} {xs ys : List D}
theorem z_inP : oInP false x (.lst ys) Q = ((plain x = true ∧ plain (.lst ys) = true) ∧ Q (.bl (ys.any fun z => eqb z x))) := propext Iff.rfl
theorem z_ninP : oInP true x (.lst ys) Q = ((plain x = true ∧ plain (.lst ys) = true) ∧ Q (.bl (!ys.any fun z => eqb z x))) := propext Iff.rfl
theorem z_mIndexP : mIndexP (.lst xs) [d] Q = ((plain (.lst xs) = true ∧ plain d = true) ∧ ∃ (j : Nat) (z : D), xs[j]? = some z ∧ eqb z d = true ∧ (∀ (m : Nat) (z' : D), m < j → xs[m]? = some z' → eqb z' d = false) ∧ Q (.int (j : Nat))) := propext Iff.rfl
end
end DL
namespace DL
open PySem PySem.Spec PyProof.Rows L2 Evl
/-! x is None, x is not None -/
def isNonD : D → Bool
  | .non => true
  | _ => false
def oIsN (n : Bool) : O2 := fun x y Q => match y with
  | .non => Q (.bl (if n then !isNonD x else isNonD x))
  | _ => False
theorem dat_non {K : PySem.W.Frag} {B : Bx} {G : Hp} {v : V} {d : D} (h : Dat K B G v d) : decide (v = .non) = isNonD d := by
  cases h <;> first | rfl | exact decide_eq_false (by intro z; cases z)
theorem op_isN_d {X : Cx} {B : Bx} : OpR X (compareOp .Is) (rLift X.K B (oIsN false)) := by
  intro pins s σ H x y v u P I rx ry q
  obtain ⟨G, dx, dy, Q, j, hx, hy, hq, k⟩ := q
  cases hy with
  | non =>
    refine op_isN pins s σ H _ _ v u P I rx ry ⟨rfl, ?_⟩
    rw [dat_non hx]
    exact k _ _ G H hq (Gr.refl j) (.bl _)
  | _ => exact hq.elim
theorem op_notN_d {X : Cx} {B : Bx} : OpR X (compareOp .IsNot) (rLift X.K B (oIsN true)) := by
  intro pins s σ H x y v u P I rx ry q
  obtain ⟨G, dx, dy, Q, j, hx, hy, hq, k⟩ := q
  cases hy with
  | non =>
    refine op_notN pins s σ H _ _ v u P I rx ry ⟨rfl, ?_⟩
    rw [dat_non hx]
    exact k _ _ G H hq (Gr.refl j) (.bl _)
  | _ => exact hq.elim
section
variable {Q : D → Prop} {x : D} {xs : List D} {fs : List D} {C : Nat}
theorem z_isN : oIsN false x .non Q = Q (.bl (isNonD x)) := propext Iff.rfl
theorem z_notN : oIsN true x .non Q = Q (.bl (!isNonD x)) := propext Iff.rfl
theorem z_nnN : isNonD .non = true := rfl
theorem z_nnT : isNonD (.tup xs) = false := rfl
theorem z_nnL : isNonD (.lst xs) = false := rfl
theorem z_nnO : isNonD (.obj C fs) = false := rfl
end
end DL
/-! Dl33: lists of own things, == and !=, where they are all equal -/
namespace DLq
open PySem PySem.SeqAt GQ
open AutoSeq1 (wpAny_loadPart')
open MeetsSeq MeetsSeq2 MeetsSeq3 SeqRoads2
section
variable {prog : Program} {w : World} {A : Around} {R : Result → Shared → Prop}
theorem ne_loop (l b : Addr) (N : Nat) (I : Nat → Shared → Prop) (hl : ListI prog w A (fun e s' => R (.error e) s') l b N I)
    (fin : ∀ s, I N s → R (.ok (.ret (.bool false))) s) (k : Nat) :
    ∀ i : Nat, N - i = k → i ≤ N → ∀ s, I i s →
      wpAny (model prog w) A.in1 (Builtin.«list.__eq__.loop» ⟨[.ref l, .ref b, rawInt i, rawInt 3], []⟩) (FinOf prog w A R) (fun e s' => R (.error e) s') s := by
  induction k with
  | zero =>
    intro i hk hi s h
    obtain ⟨xs, ys, n, n2, h1, h2, z1, z2, _⟩ := hl _ _ h
    have hR : R (.ok (.ret (.bool false))) s := fin s ((show i = N by omega) ▸ h)
    obtain ⟨hp, g, d, tk, os⟩ := s
    wp_walk using wpAny_loadPart' h1, wpAny_loadPart' h2
    have e1 : xs[((i : Nat) : Int).toNat]? = none := by simp; omega
    have e2 : ys[((i : Nat) : Int).toNat]? = none := by simp; omega
    rw [e1, e2]
    wp_walk using wpAny_loadPart' h1, wpAny_loadPart' h2
    show R (.ok (.ret (.bool (xs.size != ys.size)))) _
    rw [z1, z2]
    simpa using hR
  | succ k ih =>
    intro i hk hi s h
    obtain ⟨xs, ys, n, n2, h1, h2, z1, z2, turn⟩ := hl _ _ h
    have lx : i < xs.size := by omega
    have ly : i < ys.size := by omega
    have ht := turn lx ly
    obtain ⟨hp, g, d, tk, os⟩ := s
    wp_walk using wpAny_loadPart' h1, wpAny_loadPart' h2
    have e1 : xs[((i : Nat) : Int).toNat]? = some xs[i] := by simp [lx]
    have e2 : ys[((i : Nat) : Int).toNat]? = some ys[i] := by simp [ly]
    have hc : ((i : Int) + 1) = ((i + 1 : Nat) : Int) := by omega
    rw [e1, e2]
    refine wpAny_bind (wpAny_mono ht (fun r s2 q => ?_) fun _ _ x => x)
    obtain ⟨hr, q⟩ := q
    subst hr
    have hrec := ih (i + 1) (by omega) (by omega) s2 q
    obtain ⟨hp2, g2, d2, tk2, os2⟩ := s2
    wp_walk
    rw [hc]
    exact ⟨plainId_quiet plain_eq_loop _, codeAny_builtin entry_eq_loop (by
      rw [Around.under_plainId plain_eq_loop _]
      exact hrec)⟩
theorem list_ne (l b : Addr) (N : Nat) (I : Nat → Shared → Prop) (hl : ListI prog w A (fun e s' => R (.error e) s') l b N I)
    (fin : ∀ s, I N s → R (.ok (.ret (.bool false))) s) {s : Shared} (h : I 0 s) :
    wpAny (model prog w) A.in1 (Builtin.«list.__ne__» ⟨[.ref l, .ref b], []⟩) (FinOf prog w A R) (fun e s' => R (.error e) s') s := by
  obtain ⟨xs, ys, n, n2, h1, h2, z1, z2, _⟩ := hl _ _ h
  have hrec := ne_loop (A := A) (R := R) l b N I hl fin _ 0 rfl (Nat.zero_le _) s h
  obtain ⟨hp, g, d, tk, os⟩ := s
  have f3 := AutoSeq1.sub_list_list
  have hne : ¬ (xs.size != ys.size) = true := by simp [z1, z2]
  wp_walk using wpAny_loadPart' h1, wpAny_loadPart' h2
  exact ⟨plainId_quiet plain_eq_loop _, codeAny_builtin entry_eq_loop (by
    rw [Around.under_plainId plain_eq_loop _]
    exact hrec)⟩
end
section
variable {prog : Program} {w : World} {A : Around} {E : Value → Shared → Prop} {s : Shared}
theorem rc_ne {l b : Addr} {N : Nat} {Q : Value → Shared → Prop} (hu : A.units < cLine) (I : Nat → Shared → Prop) (hl : ListI prog w A E l b N I)
    (fin : ∀ s, I N s → Q (.bool false) s) (h : I 0 s) : wpAny (model prog w) A (richCompare .NotEq (.ref l) (.ref b)) Q E s := by
  obtain ⟨xs, ys, n, n2, h1, h2, _, _, _⟩ := hl _ _ h
  refine wpAny_richCompare_same_room (op := .NotEq) ⟨_, h1, rfl⟩ ⟨_, h2, rfl⟩ F.slot_list_ne (call_here F.slot_list_ne ⟨_, h1, rfl⟩ F.entry_list_ne (F.args_list_ne_2 _ _) ?_) hu
  exact list_ne (R := wants (fun v s' => v ≠ .notImplemented ∧ Q v s') E) l b N I hl (fun s' q => ⟨(fun x => nomatch x), fin s' q⟩) h
end
end DLq
namespace DL
open PySem PySem.Spec PyProof.Rows L2 Evl
def prsO (C : Nat) (S : FD) : List D → List D → Prop
  | [], [] => True
  | x :: xs, y :: ys => (isO C x ∧ isO C y ∧ S [x, y] (· = .bl true)) ∧ prsO C S xs ys
  | _, _ => False
theorem prsO_len {C : Nat} {S : FD} : ∀ {xs ys : List D}, prsO C S xs ys → xs.length = ys.length
  | [], [], _ => rfl
  | _ :: _, _ :: _, h => by rw [List.length_cons, List.length_cons, prsO_len h.2]
  | [], _ :: _, h => h.elim
  | _ :: _, [], h => h.elim
theorem prsO_at {C : Nat} {S : FD} : ∀ {xs ys : List D} {i : Nat} {x y : D}, prsO C S xs ys → xs[i]? = some x → ys[i]? = some y → isO C x ∧ isO C y ∧ S [x, y] (· = .bl true)
  | _ :: _, _ :: _, 0, _, _, h, e1, e2 => by cases e1; cases e2; exact h.1
  | _ :: _, _ :: _, _ + 1, _, _, h, e1, e2 => prsO_at h.2 e1 e2
  | [], _, _, _, _, _, e1, _ => nomatch e1
  | _ :: _, [], _, _, _, h, _, _ => h.elim
def oNeLO (C : Nat) (S : FD) : O2 := fun x y Q => match x, y with
  | .lst xs, .lst ys => prsO C S xs ys ∧ Q (.bl false)
  | _, _ => False
def oEqLO (C : Nat) (S : FD) : O2 := fun x y Q => match x, y with
  | .lst xs, .lst ys => prsO C S xs ys ∧ Q (.bl true)
  | _, _ => False
section
variable {X : Cx} {B : Bx} {g : Addr} {C k : Nat} {S : FD}
theorem own_turn (nf : PySem.W.notFirst X.K (B.ct C) (.ref (B.ct C)) = true) (hs : PySem.W.findIn X.K (.ref (B.ct C)) "__eq__" = some (some (.ref g))) (hf : PySem.W.isFn X.K (.ref g) = true) (F : FnR X.prog X.w X.K X.mg X.base CX0 k g (spD X.K B S)) (hr : Room (k + 1) X.A)
    {pins : List (Addr × Obj)} {σ : L2.St} {s : Shared} {G H : Hp} {x y : V} {u v : Value} {dx dy : D} (I : Inv X pins σ H s) (j : Jn X.K B G H) (rx : RelV x u) (ry : RelV y v) (hx : Dat X.K B G x dx) (hy : Dat X.K B G y dy) (h : isO C dx ∧ isO C dy ∧ S [dx, dy] (· = .bl true)) :
    wpAny (model X.prog X.w) X.A.in1 (eqBool u v) (fun r s' => r = true ∧ ∃ G2 H2, Inv X pins σ H2 s' ∧ Gr X.K B G H G2 H2) X.xe s := by
  obtain ⟨o1, o2, hq⟩ := h
  cases hx with
  | @obj a d1 C1 vs fs h3 h4 h5 =>
    cases hy with
    | @obj b d2 C2 ws gs h6 h7 h8 =>
      have o1 : C1 = C := o1
      have o2 : C2 = C := o2
      subst o1 o2
      cases (show u = Value.ref a from rx)
      cases (show v = Value.ref b from ry)
      by_cases hab : a = b
      · subst hab
        exact SeqAt.EqAt.same (A := X.A.in1) (s := s) (.ref a) X.prog X.w X.xe _ ⟨rfl, G, H, I, Gr.refl j⟩
      · refine GQ.eqBool_refG hab ?_
        obtain ⟨sl, od, _, J, _⟩ := SlX.slt_inst I (obj_slt (K := X.K) (B := B) j.ex h3 h4)
        obtain ⟨sl', od', _, J', _⟩ := SlX.slt_inst I (obj_slt (K := X.K) (B := B) j.ex h6 h7)
        obtain ⟨m, hF⟩ := I.fr
        refine PySem.W.cmp_K (op := .Eq) (tb := .ref (B.ct C2)) hr.in1.units0 hF I.ok.mod.kin J J'.type nf hs hf ?_
        refine wpAny_mono (wpAny_call (SlX.run_at (E := E0) (us := [.ref a, .ref b]) (ws := [.ref a, .ref b]) (Q := fun z H' => z = .bl true ∧ ∃ G', Gr X.K B G H G' H') F hr.in1 I.env0.in1 pass0 I (.cons rfl (.cons rfl .nil)) ⟨G, _, _, j, .cons (.obj h3 h4 h5) (.cons (.obj h6 h7 h8) .nil), hq, fun d v G2 H2 q2 g2 h2 => ?_⟩)) (fun w s' z => ?_) fun _ _ x => x
        · subst q2
          cases h2
          exact ⟨rfl, G2, g2⟩
        · obtain ⟨z', H', I', rz, ez, G', g'⟩ := z
          subst ez
          cases (show w = Value.bool true from rz)
          exact ⟨true, rfl, rfl, G', H', I', g'⟩
    | _ => exact o2.elim
  | _ => exact o1.elim
theorem own_lists (nf : PySem.W.notFirst X.K (B.ct C) (.ref (B.ct C)) = true) (hs : PySem.W.findIn X.K (.ref (B.ct C)) "__eq__" = some (some (.ref g))) (hf : PySem.W.isFn X.K (.ref g) = true) (F : FnR X.prog X.w X.K X.mg X.base CX0 k g (spD X.K B S)) (hr : Room (k + 1) X.A)
    {pins : List (Addr × Obj)} {σ : L2.St} {G H : Hp} {a b : Addr} {vs ws : List V} {xs ys : List D} (ha : G a = some (.lst vs)) (hb : G b = some (.lst ws)) (hx : Dats X.K B G vs xs) (hy : Dats X.K B G ws ys) (h : prsO C S xs ys) :
    GQ.ListI X.prog X.w X.A X.xe a b vs.length fun _ s' => ∃ G2 H2, Inv X pins σ H2 s' ∧ Gr X.K B G H G2 H2 := by
  intro i s' q
  obtain ⟨G1, H1, I1, g1⟩ := q
  obtain ⟨z, its, n1, r, e⟩ := I1.hok a _ (g1.j.ex _ _ (g1.ex _ _ ha))
  obtain ⟨z2, its2, n2, r2, e2⟩ := I1.hok b _ (g1.j.ex _ _ (g1.ex _ _ hb))
  have l1 : vs.length = its.length := r.length
  have l2 : ws.length = its2.length := r2.length
  have l3 : vs.length = ws.length := by rw [hx.len, hy.len]; exact prsO_len h
  refine ⟨its.toArray, its2.toArray, n1, n2, e, e2, by rw [List.size_toArray]; omega, by rw [List.size_toArray]; omega, fun h1 h2 => ?_⟩
  have h1' : i < its.length := by simpa using h1
  have h2' : i < its2.length := by simpa using h2
  have k1 : i < vs.length := by omega
  have k2 : i < ws.length := by omega
  obtain ⟨u, hu, ru⟩ := r.get (List.getElem?_eq_getElem k1)
  obtain ⟨v, hv, rv⟩ := r2.get (List.getElem?_eq_getElem k2)
  rw [List.getElem?_eq_getElem h1'] at hu
  rw [List.getElem?_eq_getElem h2'] at hv
  obtain ⟨x, ex, dx⟩ := hx.get' (List.getElem?_eq_getElem k1)
  obtain ⟨y, ey, dy⟩ := hy.get' (List.getElem?_eq_getElem k2)
  rw [List.getElem_toArray, List.getElem_toArray, Option.some.inj hu, Option.some.inj hv]
  refine wpAny_mono (own_turn nf hs hf F hr I1 g1.j ru rv (dx.mono g1.ex) (dy.mono g1.ex) (prsO_at h ex ey)) (fun r s2 q => ?_) fun _ _ x => x
  obtain ⟨hr, G2, H2, I2, g2⟩ := q
  exact ⟨hr, G2, H2, I2, g1.trans g2⟩
theorem op_neLO (nf : PySem.W.notFirst X.K (B.ct C) (.ref (B.ct C)) = true) (hs : PySem.W.findIn X.K (.ref (B.ct C)) "__eq__" = some (some (.ref g))) (hf : PySem.W.isFn X.K (.ref g) = true) (F : FnR X.prog X.w X.K X.mg X.base CX0 k g (spD X.K B S)) (hr : Room (k + 1) X.A) : OpR X (compareOp .NotEq) (rLift X.K B (oNeLO C S)) := by
  intro pins s σ H x y v u P I rx ry q
  obtain ⟨G, dx, dy, Q, j, hx, hy, hq, kk⟩ := q
  cases hx with
  | @lst a vs xs h1 h2 =>
    cases hy with
    | @lst b ws ys h3 h4 =>
      obtain ⟨hp, hq⟩ := hq
      cases (show v = Value.ref a from rx)
      cases (show u = Value.ref b from ry)
      show wpAny (model X.prog X.w) X.A (richCompare .NotEq (.ref a) (.ref b)) (EP X pins σ P) X.xe s
      refine DLq.rc_ne hr.units0 _ (own_lists (pins := pins) (σ := σ) (H := H) nf hs hf F hr h1 h3 h2 h4 hp) (fun s' z => ?_) ⟨G, H, I, Gr.refl j⟩
      obtain ⟨G2, H2, I2, g2⟩ := z
      exact ⟨.bl false, H2, I2, rfl, kk _ _ G2 H2 hq g2 (.bl _)⟩
    | _ => exact hq.elim
  | _ => exact hq.elim
theorem op_eqLO (nf : PySem.W.notFirst X.K (B.ct C) (.ref (B.ct C)) = true) (hs : PySem.W.findIn X.K (.ref (B.ct C)) "__eq__" = some (some (.ref g))) (hf : PySem.W.isFn X.K (.ref g) = true) (F : FnR X.prog X.w X.K X.mg X.base CX0 k g (spD X.K B S)) (hr : Room (k + 1) X.A) : OpR X (compareOp .Eq) (rLift X.K B (oEqLO C S)) := by
  intro pins s σ H x y v u P I rx ry q
  obtain ⟨G, dx, dy, Q, j, hx, hy, hq, kk⟩ := q
  cases hx with
  | @lst a vs xs h1 h2 =>
    cases hy with
    | @lst b ws ys h3 h4 =>
      obtain ⟨hp, hq⟩ := hq
      cases (show v = Value.ref a from rx)
      cases (show u = Value.ref b from ry)
      show wpAny (model X.prog X.w) X.A (richCompare .Eq (.ref a) (.ref b)) (EP X pins σ P) X.xe s
      refine GQ.rc_listG hr.units0 _ (own_lists (pins := pins) (σ := σ) (H := H) nf hs hf F hr h1 h3 h2 h4 hp) (fun s' z => ?_) ⟨G, H, I, Gr.refl j⟩
      obtain ⟨G2, H2, I2, g2⟩ := z
      exact ⟨.bl true, H2, I2, rfl, kk _ _ G2 H2 hq g2 (.bl _)⟩
    | _ => exact hq.elim
  | _ => exact hq.elim
end
def oPow : O2 := oIc CPow fun i j => .int (i ^ j.toNat)
theorem op_pow_d {X : Cx} {B : Bx} : OpR X (binaryOp .Pow) (rLift X.K B oPow) := op_intc op_pow fun _ _ _ => .int _
theorem z_pow {a b : Int} {Q : D → Prop} : oPow (.int a) (.int b) Q = (CPow a b ∧ Q (.int (a ^ b.toNat))) := propext Iff.rfl
section
variable {C : Nat} {S : FD} {x y : D} {xs ys : List D} {Q : D → Prop}
theorem z_neLO : oNeLO C S (.lst xs) (.lst ys) Q = (prsO C S xs ys ∧ Q (.bl false)) := propext Iff.rfl
theorem z_eqLO : oEqLO C S (.lst xs) (.lst ys) Q = (prsO C S xs ys ∧ Q (.bl true)) := propext Iff.rfl
theorem z_prsN : prsO C S [] [] = True := propext Iff.rfl
theorem z_prsC : prsO C S (x :: xs) (y :: ys) = ((isO C x ∧ isO C y ∧ S [x, y] (· = .bl true)) ∧ prsO C S xs ys) := propext Iff.rfl
end
end DL
/-! Dl34: the evaluator's lemmas in bundles -/
namespace DL
open PySem PySem.Spec PyProof.Rows L2 Evl
theorem zGd0 : (type_of% @z_pow) ∧ (type_of% @z_neLO) ∧ (type_of% @z_eqLO) ∧ (type_of% @z_prsN) ∧ (type_of% @z_prsC) ∧ (type_of% @z_isN) ∧ (type_of% @z_notN) ∧ (type_of% @z_inP) ∧ (type_of% @z_ninP) ∧ (type_of% @z_selfN) ∧ (type_of% @z_nwD) ∧ (type_of% @z_lc2) ∧ (type_of% @z_zipM) ∧ (type_of% @z_zipMD) ∧ (type_of% @z_var0) ∧ (type_of% @z_varS) ∧ (type_of% @z_slot) ∧ (type_of% @z_own) ∧ (type_of% @z_c) ∧ (type_of% @z_nil) ∧ (type_of% @z_cons) ∧ (type_of% @z_tup) ∧ (type_of% @z_lst) ∧ (type_of% @z_sz) ∧ (type_of% @z_f) ∧ (type_of% @z_op) ∧ (type_of% @z_un) ∧ (type_of% @z_tBl) ∧ (type_of% @z_bl) ∧ (type_of% @z_tNt) ∧ (type_of% @z_notT) ∧ (type_of% @z_notF) ∧ (type_of% @z_dNt) ∧ (type_of% @z_call) ∧ (type_of% @z_next) ∧ (type_of% @z_seqS) ∧ (type_of% @z_ret) ∧ (type_of% @z_retN) ∧ (type_of% @z_drop) ∧ (type_of% @z_brk) ∧ (type_of% @z_cnt) ∧ (type_of% @z_gN) ∧ (type_of% @z_gsNil) ∧ (type_of% @z_gsCons) ∧ (type_of% @z_headL) ∧ (type_of% @z_nilL) ∧ (type_of% @z_gT) ∧ (type_of% @z_gL) ∧ (type_of% @z_tupD) ∧ (type_of% @z_lstD) ∧ (type_of% @z_asg) ∧ (type_of% @z_set) ∧ (type_of% @z_setO) ∧ (type_of% @z_own0) ∧ (type_of% @z_ownS) ∧ (type_of% @z_slot0) ∧ (type_of% @z_slotS) ∧ (type_of% @z_ext) ∧ (type_of% @z_app) ∧ (type_of% @z_frz) := ⟨@z_pow, @z_neLO, @z_eqLO, @z_prsN, @z_prsC, @z_isN, @z_notN, @z_inP, @z_ninP, @z_selfN, @z_nwD, @z_lc2, @z_zipM, @z_zipMD, @z_var0, @z_varS, @z_slot, @z_own, @z_c, @z_nil, @z_cons, @z_tup, @z_lst, @z_sz, @z_f, @z_op, @z_un, @z_tBl, @z_bl, @z_tNt, @z_notT, @z_notF, @z_dNt, @z_call, @z_next, @z_seqS, @z_ret, @z_retN, @z_drop, @z_brk, @z_cnt, @z_gN, @z_gsNil, @z_gsCons, @z_headL, @z_nilL, @z_gT, @z_gL, @z_tupD, @z_lstD, @z_asg, @z_set, @z_setO, @z_own0, @z_ownS, @z_slot0, @z_slotS, @z_ext, @z_app, @z_frz⟩
theorem zGd1 : (type_of% @z_aug) ∧ (type_of% @z_for) ∧ (type_of% @z_lc) ∧ (type_of% @z_yes) ∧ (type_of% @z_sl) ∧ (type_of% @z_noP) ∧ (type_of% @z_aP) ∧ (type_of% @z_intO) ∧ (type_of% @z_ifS) ∧ (type_of% @iteS_t) ∧ (type_of% @iteS_f) ∧ (type_of% @z_ifE) ∧ (type_of% @iteE_t) ∧ (type_of% @iteE_f) ∧ (type_of% @z_an) ∧ (type_of% @z_or) ∧ (type_of% @anE_t) ∧ (type_of% @anE_f) ∧ (type_of% @orE_t) ∧ (type_of% @orE_f) ∧ (type_of% @z_tan) ∧ (type_of% @z_tor) ∧ (type_of% @anT_t) ∧ (type_of% @anT_f) ∧ (type_of% @orT_t) ∧ (type_of% @orT_f) ∧ (type_of% @z_seq) ∧ (type_of% @z_seqL) ∧ (type_of% @z_seqT) ∧ (type_of% @z_seqSt) ∧ (type_of% @z_star) ∧ (type_of% @z_starT) ∧ (type_of% @z_starL) ∧ (type_of% @z_neg) ∧ (type_of% @z_sub) ∧ (type_of% @z_mod) ∧ (type_of% @z_div) ∧ (type_of% @z_lt) ∧ (type_of% @z_le) ∧ (type_of% @z_gt) ∧ (type_of% @z_ge) ∧ (type_of% @z_addI) ∧ (type_of% @z_addS) ∧ (type_of% @z_addL) ∧ (type_of% @z_addT) ∧ (type_of% @z_iaddI) ∧ (type_of% @z_iaddS) ∧ (type_of% @z_mulI) ∧ (type_of% @z_mulS) ∧ (type_of% @z_mulL) ∧ (type_of% @z_atD) ∧ (type_of% @z_atC) ∧ (type_of% @z_ixS) ∧ (type_of% @z_ixL0) ∧ (type_of% @z_ixL1) ∧ (type_of% @z_ixL2) ∧ (type_of% @z_ixL3) ∧ (type_of% @z_ixL4) ∧ (type_of% @z_ixL5) ∧ (type_of% @z_ixL6) := ⟨@z_aug, @z_for, @z_lc, @z_yes, @z_sl, @z_noP, @z_aP, @z_intO, @z_ifS, @iteS_t, @iteS_f, @z_ifE, @iteE_t, @iteE_f, @z_an, @z_or, @anE_t, @anE_f, @orE_t, @orE_f, @z_tan, @z_tor, @anT_t, @anT_f, @orT_t, @orT_f, @z_seq, @z_seqL, @z_seqT, @z_seqSt, @z_star, @z_starT, @z_starL, @z_neg, @z_sub, @z_mod, @z_div, @z_lt, @z_le, @z_gt, @z_ge, @z_addI, @z_addS, @z_addL, @z_addT, @z_iaddI, @z_iaddS, @z_mulI, @z_mulS, @z_mulL, @z_atD, @z_atC, @z_ixS, @z_ixL0, @z_ixL1, @z_ixL2, @z_ixL3, @z_ixL4, @z_ixL5, @z_ixL6⟩
theorem zGd2 : (type_of% @z_ixL7) ∧ (type_of% @z_ixT0) ∧ (type_of% @z_ixT1) ∧ (type_of% @z_ixT2) ∧ (type_of% @z_ixT3) ∧ (type_of% @z_ixT4) ∧ (type_of% @z_ixT5) ∧ (type_of% @z_ixT6) ∧ (type_of% @z_ixT7) ∧ (type_of% @z_eqS) ∧ (type_of% @z_eqI) ∧ (type_of% @z_eqB) ∧ (type_of% @z_eqL) ∧ (type_of% @z_eqT) ∧ (type_of% @z_neS) ∧ (type_of% @z_neI) ∧ (type_of% @z_neB) ∧ (type_of% @z_neL) ∧ (type_of% @z_neT) ∧ (type_of% @z_inL) ∧ (type_of% @z_inT) ∧ (type_of% @z_ninL) ∧ (type_of% @z_ninT) ∧ (type_of% @z_slL) ∧ (type_of% @z_slT) ∧ (type_of% @z_slS) ∧ (type_of% @z_lenL) ∧ (type_of% @z_lenT) ∧ (type_of% @z_lenS) ∧ (type_of% @z_intI) ∧ (type_of% @z_intB) ∧ (type_of% @z_abs) ∧ (type_of% @z_max) ∧ (type_of% @z_min) ∧ (type_of% @z_tupL) ∧ (type_of% @z_tupT) ∧ (type_of% @z_par) ∧ (type_of% @z_r1) ∧ (type_of% @z_r1D) ∧ (type_of% @z_r2) ∧ (type_of% @z_r2D) ∧ (type_of% @z_fld) ∧ (type_of% @z_fldD) ∧ (type_of% @z_prop) ∧ (type_of% @z_isO) ∧ (type_of% @z_meth) ∧ (type_of% @z_callO) ∧ (type_of% @z_make) ∧ (type_of% @z_own2) ∧ (type_of% @z_own1) ∧ (type_of% @z_ownNe) ∧ (type_of% @z_isi) ∧ (type_of% @z_isiN) ∧ (type_of% @z_isiB) ∧ (type_of% @z_isiI) ∧ (type_of% @z_isiS) ∧ (type_of% @z_isiL) ∧ (type_of% @z_isiT) ∧ (type_of% @z_isiD) ∧ (type_of% @z_dget) := ⟨@z_ixL7, @z_ixT0, @z_ixT1, @z_ixT2, @z_ixT3, @z_ixT4, @z_ixT5, @z_ixT6, @z_ixT7, @z_eqS, @z_eqI, @z_eqB, @z_eqL, @z_eqT, @z_neS, @z_neI, @z_neB, @z_neL, @z_neT, @z_inL, @z_inT, @z_ninL, @z_ninT, @z_slL, @z_slT, @z_slS, @z_lenL, @z_lenT, @z_lenS, @z_intI, @z_intB, @z_abs, @z_max, @z_min, @z_tupL, @z_tupT, @z_par, @z_r1, @z_r1D, @z_r2, @z_r2D, @z_fld, @z_fldD, @z_prop, @z_isO, @z_meth, @z_callO, @z_make, @z_own2, @z_own1, @z_ownNe, @z_isi, @z_isiN, @z_isiB, @z_isiI, @z_isiS, @z_isiL, @z_isiT, @z_isiD, @z_dget⟩
theorem zGd3 : (type_of% @z_dgS) ∧ (type_of% @z_dgI) ∧ (type_of% @z_dic) ∧ (type_of% @z_dicD) ∧ (type_of% @z_mt) ∧ (type_of% @z_mtS) ∧ (type_of% @z_mtL) ∧ (type_of% @z_en) ∧ (type_of% @z_enL) ∧ (type_of% @z_enD) ∧ (type_of% @z_kget) ∧ (type_of% @z_dget2) ∧ (type_of% @z_isDic) ∧ (type_of% @z_dg2S) ∧ (type_of% @z_inK) ∧ (type_of% @z_ninK) ∧ (type_of% @z_oD) ∧ (type_of% @z_oF) ∧ (type_of% @z_oNil) ∧ (type_of% @z_oCons) ∧ (type_of% @z_oLst) ∧ (type_of% @z_oDic0) ∧ (type_of% @z_oDic) ∧ (type_of% @z_dFz) ∧ (type_of% @z_setT) ∧ (type_of% @z_retE) ∧ (type_of% @z_retO) ∧ (type_of% @z_oCall) ∧ (type_of% @z_oMeth) ∧ (type_of% @z_rep) ∧ (type_of% @z_repL) ∧ (type_of% @z_cat) ∧ (type_of% @z_catL) ∧ (type_of% @z_list) ∧ (type_of% @z_listL) ∧ (type_of% @z_listT) ∧ (type_of% @z_par2) ∧ (type_of% @z_par3) ∧ (type_of% @z_sOs) ∧ (type_of% @z_sOl) ∧ (type_of% @z_sOd) ∧ (type_of% @z_rVar) ∧ (type_of% @z_rIx) ∧ (type_of% @z_ixR) ∧ (type_of% @z_appR) ∧ (type_of% @z_stoR) ∧ (type_of% @z_augR) ∧ (type_of% @z_oI) ∧ (type_of% @z_shO) ∧ (type_of% @z_dputR) ∧ (type_of% @z_lstA0) ∧ (type_of% @z_lstAS) ∧ (type_of% @z_dicA0) ∧ (type_of% @z_dicAS) ∧ (type_of% @z_putS0) ∧ (type_of% @z_putSS) ∧ (type_of% @z_setO0) ∧ (type_of% @z_setO1) ∧ (type_of% @z_setO2) ∧ (type_of% @z_lstA1) := ⟨@z_dgS, @z_dgI, @z_dic, @z_dicD, @z_mt, @z_mtS, @z_mtL, @z_en, @z_enL, @z_enD, @z_kget, @z_dget2, @z_isDic, @z_dg2S, @z_inK, @z_ninK, @z_oD, @z_oF, @z_oNil, @z_oCons, @z_oLst, @z_oDic0, @z_oDic, @z_dFz, @z_setT, @z_retE, @z_retO, @z_oCall, @z_oMeth, @z_rep, @z_repL, @z_cat, @z_catL, @z_list, @z_listL, @z_listT, @z_par2, @z_par3, @z_sOs, @z_sOl, @z_sOd, @z_rVar, @z_rIx, @z_ixR, @z_appR, @z_stoR, @z_augR, @z_oI, @z_shO, @z_dputR, @z_lstA0, @z_lstAS, @z_dicA0, @z_dicAS, @z_putS0, @z_putSS, @z_setO0, @z_setO1, @z_setO2, @z_lstA1⟩
theorem zGd4 : (type_of% @z_lstA2) ∧ (type_of% @z_forOw) ∧ (type_of% @z_tBor) ∧ (type_of% @z_dBor) ∧ (type_of% @z_scN) ∧ (type_of% @z_scB) ∧ (type_of% @z_scI) ∧ (type_of% @z_scS) ∧ (type_of% @z_ownO0) ∧ (type_of% @z_ownOS) ∧ (type_of% @z_sortSet) ∧ (type_of% @z_setL) ∧ (type_of% @z_listR) ∧ (type_of% @z_rgL) ∧ (type_of% @z_sumT2) := ⟨@z_lstA2, @z_forOw, @z_tBor, @z_dBor, @z_scN, @z_scB, @z_scI, @z_scS, @z_ownO0, @z_ownOS, @z_sortSet, @z_setL, @z_listR, @z_rgL, @z_sumT2⟩
theorem zGp0 : (type_of% @z_nnN) ∧ (type_of% @z_nnT) ∧ (type_of% @z_nnL) ∧ (type_of% @z_nnO) ∧ (type_of% @z_nwD) ∧ (type_of% @atI0) ∧ (type_of% @atI1) ∧ (type_of% @atI2) ∧ (type_of% @atI3) ∧ (type_of% @atI4) ∧ (type_of% @atI5) ∧ (type_of% @atI6) ∧ (type_of% @atI7) ∧ (type_of% @z_sz) ∧ (type_of% @z_notT) ∧ (type_of% @z_notF) ∧ (type_of% @z_tupD) ∧ (type_of% @z_lstD) ∧ (type_of% @iteS_t) ∧ (type_of% @iteS_f) ∧ (type_of% @iteE_t) ∧ (type_of% @iteE_f) ∧ (type_of% @anE_t) ∧ (type_of% @anE_f) ∧ (type_of% @orE_t) ∧ (type_of% @orE_f) ∧ (type_of% @anT_t) ∧ (type_of% @anT_f) ∧ (type_of% @orT_t) ∧ (type_of% @orT_f) ∧ (type_of% @z_atD) ∧ (type_of% @z_ixL) ∧ (type_of% @z_ixT) ∧ (type_of% @z_dicD) ∧ (type_of% @z_dg2S) ∧ (type_of% @z_dicO) ∧ (type_of% @z_toDs) ∧ (type_of% @z_toDl) ∧ (type_of% @z_toDd) := ⟨@z_nnN, @z_nnT, @z_nnL, @z_nnO, @z_nwD, @atI0, @atI1, @atI2, @atI3, @atI4, @atI5, @atI6, @atI7, @z_sz, @z_notT, @z_notF, @z_tupD, @z_lstD, @iteS_t, @iteS_f, @iteE_t, @iteE_f, @anE_t, @anE_f, @orE_t, @orE_f, @anT_t, @anT_f, @orT_t, @orT_f, @z_atD, @z_ixL, @z_ixT, @z_dicD, @z_dg2S, @z_dicO, @z_toDs, @z_toDl, @z_toDd⟩
end DL
/-! Dl35: dict comprehensions, keys of any kind -/
namespace L2
open PySem PySem.Spec PyProof.Rows
section
variable {X : Cx} {pins : List (Addr × Obj)} {σ : St} {H H' : Hp} {s : Shared} {E : Value → Shared → Prop} {a : Addr} {y v : V} {u r : Value} {Q : Unit → Shared → Prop}
theorem dc_put (hu : X.A.units < cLine) (I : Inv X pins σ H s) (g : DPut H a y v H') (ry : RelV y u) (rv : RelV v r) (h : ∀ s', Inv X pins σ H' s' → Q () s') : wpAny (model X.prog X.w) X.A (dictSet a u r) Q E s := by
  rcases g with ⟨kvs, k, e, ey, l, eH⟩ | ⟨kvs, k, b, e, ey, eb, l, eH⟩
  · subst ey eH
    exact d_dictSet I e l ry rv h
  · subst ey eH
    cases (show u = Value.ref b from ry)
    obtain ⟨z, hd, xs, rel, dd⟩ := dt_of I.hok e
    have hl : (putK kvs k v).length ≤ sizeLine := by have := length_putK kvs k v; omega
    refine wpAny_dictSet_heap (hsz := by rw [← Paired.length rel]; exact z) (show (tupleKind _).room X.A from hu) (key_of I.hok eb) dd fun h' dd' hs => h _ ?_
    obtain ⟨q, es, ep, hq, h2, h3, h4, _, h5⟩ := dd'
    refine d_write I (by rw [e]; exact True.intro) hs ⟨q, hq⟩ ⟨hl, hd, _, (rel.put k eb rv).keeps fun c ys ec => ?_, q, es, ep, hq, h2, h3, h4, h5⟩
    rw [upd_ne (ne_of ec e (fun z => nomatch z))]
    exact ec
/-- what may stand at a dict that was just made -/
def Dc0 (o : HO) : Prop := o = .dK [] ∨ o = .dT []
theorem Dc0.ok {P : Program} {w : World} {H : Hp} {o : HO} (c : Dc0 o) (h : Heap) (hb : sysModules < h.objs.size) : ObjOk P w H (h.push { cls := .type "dict", data := .dict #[] }) h.objs.size o := by
  rcases c with rfl | rfl
  · exact dk_empty h hb
  · exact dt_empty h hb
end
section
variable {X : Cx}
def tDcG (o : HO) (wi : TI) (g : TG) (tt : TT) (tk tv : TE) (vs : List Nat) : TE := fun σ H Q => wi σ H fun J H1 => ∀ D, H1 D = none → ∃ W : Nat → Nat → Hp → Prop, (∃ m, W 0 m (upd H1 D o)) ∧ ∀ i m H, W i m H →
  (J.stop i H ∧ Q (.ref D) H) ∨ (J.go i H ∧ ∃ Nx : Hp → Prop, (∀ H', Nx H' → ∃ m', m' < m ∧ W (i + 1) m' H') ∧ ∀ x H', J.yld i H x H' → g x (wipe σ vs) H' fun σ2 H2 => wipe σ2 vs = wipe σ vs ∧ tt σ2 H2 fun b H3 =>
    if b = true then tk σ2 H3 fun y H4 => tv σ2 H4 fun z H5 => ∃ H6, DPut H5 D y z H6 ∧ Nx H6 else Nx H3)
theorem dcG_core {pins : List (Addr × Obj)} {s : Shared} {σ : St} {H : Hp} {Q : VK} {pos' : Pos} {use : Option (Value → Sem Unit)} {Qf : Value → Shared → Prop} {o : HO} {kx vx tg iter : Expr} {ifs : List Expr} {scope : Scope} {own : List (Str × Nat)} {pos : Pos} {wi : TI} {g : TG} {tt : TT} {tk tv : TE} (c0 : Dc0 o) (hu : X.A.units < cLine) (hc : X.calm = true) (hN : X.N.Nodup) (hi : PI X tg iter wi) (ok : BlkOk X.N X.env.scope scope own)
    (hg : ∀ (s : Shared) (H : Hp) (C : Addr) (cl : List (Str × Addr)) (fp : List Addr), PG (X.blk s H scope (compEnvC scope cl C X.env) fp) tg g) (ht : ∀ (s : Shared) (H : Hp) (C : Addr) (cl : List (Str × Addr)) (fp : List Addr), PTs (X.blk s H scope (compEnvC scope cl C X.env) fp) ifs tt)
    (hk : ∀ (s : Shared) (H : Hp) (C : Addr) (cl : List (Str × Addr)) (fp : List Addr), PE (X.blk s H scope (compEnvC scope cl C X.env) fp) kx tk)
    (he : ∀ (s : Shared) (H : Hp) (C : Addr) (cl : List (Str × Addr)) (fp : List Addr), PE (X.blk s H scope (compEnvC scope cl C X.env) fp) vx tv) (hs : ∀ x, foldedSetIterable iter X.env x = pure x) (I : Inv X pins σ H s)
    (h : tDcG o wi g tt tk tv (own.map (·.2)) σ H Q) (hRR : ∀ D C s' m H', Inv X pins σ H' s' → Q (.ref D) H' → s'.heap.Ns C m → FpOk X pins H' C → compPost (model X.prog X.w) X.A X.xe use Qf (.ref D) C (.ok .next) s') :
    wpAny (model X.prog X.w) X.A (comprehension (.DictComp kx vx [⟨tg, iter, ifs, 0⟩] scope pos) scope X.env pos' newDict false (eval iter X.env) use) Qf X.xe s := by
  have hfree : ∀ y ∈ scope.names, y.2 = .free → ∃ c, X.env.cells.lookup y.1 = some c := fun y hy e => (ok.free y hy e).elim (fun k => I.ok.has _ (.inl k)) fun k => I.ok.has _ (.inr k)
  refine wpAny_comprehension_free (use := use) rfl hs (closure_ok hfree) ok.kind (fun y hy e => by rw [ok.uniq y hy, e]) (thn (hi.run pins s σ H _ I h) fun xv s1 hx => thn hx fun itv s2 h2 => ?_)
  obtain ⟨it, fp, tn, J, H2, e, I2, T, st2, f2, q⟩ := h2
  subst e
  refine wpAny_newObj_type (newEnv_comp ?_)
  generalize hD : s2.heap.objs.size = D
  obtain ⟨W, ⟨m0, w0⟩, turn⟩ := q D (I2.hok.fresh (Nat.le_of_eq hD))
  generalize hs3 : ({ s2 with heap := s2.heap.push { cls := .type "dict", data := .dict #[] } } : Shared) = s3
  have h3 : s3.heap = s2.heap.push { cls := .type "dict", data := .dict #[] } := by rw [← hs3]
  have I3 : Inv X pins σ (upd H2 D o) s3 := by
    rw [← hs3]
    refine I2.laid (t' := s2.toks) (fun b o e => Heap.get?_push_of_some _ e) (Nat.le_of_eq hD) ?_
    rw [← hD]
    exact c0.ok s2.heap I2.big
  have f3 : ∀ b ∈ fp, FpOk X pins (upd H2 D o) b ∧ b < s3.heap.objs.size := fun b hb => by
    obtain ⟨oo, eo, _⟩ := T.obj _ _ st2 b hb
    have hlt := Heap.lt_size eo
    refine ⟨⟨?_, (f2 b hb).2⟩, by rw [h3, Heap.size_push]; exact Nat.lt_succ_of_lt hlt⟩
    rw [upd_ne (by rw [← hD]; exact Nat.ne_of_lt hlt)]
    exact (f2 b hb).1
  have st3 : tn 0 s3.heap := T.keep _ _ _ st2 fun b _ o e => by rw [h3]; exact Heap.get?_push_of_some _ e
  have I4 := block_start I3 ok hN f3
  generalize hcl : cellsFrom (s3.heap.objs.size + 1) scope.names (cloFrom X.env.cells scope.names []) = cl at I4 ⊢
  have pg := hg s3 (upd H2 D o) s3.heap.objs.size cl fp
  have pt := ht s3 (upd H2 D o) s3.heap.objs.size cl fp
  have pk := hk s3 (upd H2 D o) s3.heap.objs.size cl fp
  have pe := he s3 (upd H2 D o) s3.heap.objs.size cl fp
  show codeAny _ _ (.compStart (.DictComp kx vx [⟨tg, iter, ifs, 0⟩] scope pos) 0 (.ref it) (.ref D) (compEnvC scope cl s3.heap.objs.size X.env)) (compPost (model X.prog X.w) X.A X.xe use Qf (.ref D) s3.heap.objs.size) { s3 with heap := pushCells (s3.heap.push { cls := .type "dict", data := .dict #[] }) scope.names }
  have nfp : ∀ b ∈ fp, (upd H2 D o) b = none := fun b hb => (f3 b hb).1.1
  generalize hce : compEnvC scope cl s3.heap.objs.size X.env = ce at I4 pg pt pk pe ⊢
  have cL : ce.locals = s3.heap.objs.size := by subst hce; rfl
  generalize hH3 : upd H2 D o = H3 at I3 I4 pg pt pk pe w0 nfp f3
  generalize hs4 : ({ s3 with heap := pushCells (s3.heap.push { cls := .type "dict", data := .dict #[] }) scope.names } : Shared) = s4 at I4 ⊢
  have st4 : tn 0 s4.heap := T.keep _ _ _ st3 fun b _ o e => by rw [← hs4]; exact pushCells_keeps _ _ _ _ (Heap.get?_push_of_some _ e)
  have stat : ∀ {σ' : St} {H' : Hp} {s' : Shared}, Inv (X.blk s3 H3 scope ce fp) [] σ' H' s' → (∀ b ∈ fp, H' b = none) → ∀ b ∈ fp, FpOk (X.blk s3 H3 scope ce fp) [] H' b := fun I' hn b hb =>
    ⟨hn b hb, (I'.ok.exf b hb).1, I'.ok.exfs b hb, .inl hb, fun x c e => (I'.ok.exf b hb).2 x c e, fun p hp => absurd (show p ∈ ([] : List (Addr × Obj)) ++ [] from hp) (by simp)⟩
  have loop : codeAny (model X.prog X.w) X.A (.compLoop (.DictComp kx vx [⟨tg, iter, ifs, 0⟩] scope pos) 0 (.ref it) (.ref D) ce) (compPost (model X.prog X.w) X.A X.xe use Qf (.ref D) s3.heap.objs.size) s4 := by
    refine compLoop_anyD (fun n s' => ∃ i H', Inv (X.blk s3 H3 scope ce fp) [] (wipe σ (own.map (·.2))) H' s' ∧ tn i s'.heap ∧ (∀ b ∈ fp, H' b = none) ∧ W i n H') ?_ m0 ⟨0, H3, I4, st4, nfp, w0⟩
    rintro n s5 ⟨i, H5, I5, st5, n5, w5⟩
    rcases turn i n H5 w5 with ⟨stop, qq⟩ | ⟨go, Nx, hNx, step⟩
    · refine thnF (T.done (X.blk s3 H3 scope ce fp) rfl rfl rfl hc i [] s5 _ H5 (fun _ _ => False) I5 (stat I5 n5) st5 stop) fun r s6 ⟨hr, I6⟩ => ?_
      subst hr
      have I7 : Inv X pins σ H5 s6 := I3.call' (ch := fp) I6.os I6.base I6.hok I6.bare fun b hb => ⟨(f3 b hb).1.2.2.2.1, (f3 b hb).1.2.1, (f3 b hb).1.2.2.2.2.1, (f3 b hb).1.2.2.2.2.2⟩
      have nC : H5 s3.heap.objs.size = none := by rw [← cL]; exact I6.free
      obtain ⟨m, hn, _⟩ := I6.loc
      have hn : s6.heap.Ns ce.locals m := hn
      rw [cL] at hn
      exact hRR D s3.heap.objs.size s6 m H5 I7 qq hn (I3.fpOk (Nat.le_refl _) nC)
    · refine thnF (T.item (X.blk s3 H3 scope ce fp) rfl rfl rfl hc i [] s5 _ H5 (fun _ _ => False) I5 (stat I5 n5) st5 go) fun r s6 ⟨u, hr, h6⟩ => ?_
      subst hr
      refine thnF h6 fun _ s7 ⟨x, H7, I7, r7, y7, st7, n7⟩ => ?_
      refine thnF (pg.run _ s7 _ H7 x u _ (I7.pinned (stat I7 n7) (T.obj _ _ st7)) r7 (step x H7 y7)) fun _ s8 ⟨σ8, H8, I8, hw8, q8⟩ => ?_
      refine thnF (pt.run _ s8 σ8 H8 _ I8 q8) fun b s9 ⟨H9, I9, q9⟩ => ?_
      have fin : ∀ {s' : Shared} {H' : Hp}, Inv (X.blk s3 H3 scope ce fp) ([] ++ pinsAt fp s7.heap) σ8 H' s' → Nx H' → ∃ m, m < n ∧ ∃ i H', Inv (X.blk s3 H3 scope ce fp) [] (wipe σ (own.map (·.2))) H' s' ∧ tn i s'.heap ∧ (∀ b ∈ fp, H' b = none) ∧ W i m H' := fun {s' H'} I' nx => by
        obtain ⟨m', hm, w'⟩ := hNx H' nx
        have pin' : ∀ b ∈ fp, ∀ o, s7.heap.get? b = some o → s'.heap.get? b = some o ∧ H' b = none := fun b hb o e =>
          let z := I'.pin (b, o) (List.mem_append_right _ (List.mem_append_right _ (mem_pinsAt hb e)))
          ⟨z.1, z.2.1⟩
        refine ⟨m', hm, i + 1, H', (I'.unpinned (pins := [])).weak (by rw [← hw8, wipe_length]) (fun j v e => ?_), T.keep _ _ _ st7 fun b hb o e => (pin' b hb o e).1, fun b hb => ?_, w'⟩
        · rw [← hw8] at e
          exact (wipe_some e).1
        · obtain ⟨o, e, _⟩ := T.obj _ _ st7 b hb
          exact (pin' b hb o e).2
      cases b with
      | false =>
        simp only [Bool.false_eq_true, if_false] at q9 ⊢
        exact fin I9 q9
      | true =>
        simp only [if_true] at q9 ⊢
        refine thnF (pk.run _ s9 σ8 H9 _ I9 q9) fun z s10 ⟨yk, H10, I10, r10, q10⟩ => ?_
        refine thnF (pe.run _ s10 σ8 H10 _ I10 q10) fun z2 s11 ⟨yv, H11, I11, r11, H12, put, nx⟩ => ?_
        exact dc_put (X := X.blk s3 H3 scope ce fp) hu I11 put r10 r11 fun s12 I12 => fin I12 nx
  exact codeAny_compStart_dict loop (T.self X.A 0 _ _ _ st4 loop)
theorem pe_dcG {o : HO} {kx vx tg iter : Expr} {ifs : List Expr} {scope : Scope} {own : List (Str × Nat)} {pos : Pos} {wi : TI} {g : TG} {tt : TT} {tk tv : TE} (c0 : Dc0 o) (hu : X.A.units < cLine) (hc : X.calm = true) (hN : X.N.Nodup) (hi : PI X tg iter wi) (ok : BlkOk X.N X.env.scope scope own)
    (hg : ∀ (s : Shared) (H : Hp) (C : Addr) (cl : List (Str × Addr)) (fp : List Addr), PG (X.blk s H scope (compEnvC scope cl C X.env) fp) tg g) (ht : ∀ (s : Shared) (H : Hp) (C : Addr) (cl : List (Str × Addr)) (fp : List Addr), PTs (X.blk s H scope (compEnvC scope cl C X.env) fp) ifs tt)
    (hk : ∀ (s : Shared) (H : Hp) (C : Addr) (cl : List (Str × Addr)) (fp : List Addr), PE (X.blk s H scope (compEnvC scope cl C X.env) fp) kx tk)
    (he : ∀ (s : Shared) (H : Hp) (C : Addr) (cl : List (Str × Addr)) (fp : List Addr), PE (X.blk s H scope (compEnvC scope cl C X.env) fp) vx tv) (hs : ∀ x, foldedSetIterable iter X.env x = pure x := by intro _; rfl) :
    PE X (.DictComp kx vx [⟨tg, iter, ifs, 0⟩] scope pos) (tDcG o wi g tt tk tv (own.map (·.2))) := by
  refine ⟨fun pins s σ H Q I h => ?_⟩
  rw [arm_eval_DictComp]
  refine dcG_core c0 hu hc hN hi ok hg ht hk he hs I h fun D C s' m H' I' q hn f => ⟨m, hn, fun h'' sb => ?_⟩
  obtain ⟨f0, f1, f2, f3, f4, f5⟩ := f
  exact ⟨.ref D, H', I'.turned (t' := s'.toks) (fun b o hb e => (sb.2 b hb).trans e) f0 f1 f3 f4 f5, rfl, q⟩
/-- y = {k: v for ..} -/
theorem ps_setDcG {i : Nat} {y : Str} {py spos : Pos} {o : HO} {kx vx tg iter : Expr} {ifs : List Expr} {scope : Scope} {own : List (Str × Nat)} {pos : Pos} {wi : TI} {g : TG} {tt : TT} {tk tv : TE} (c0 : Dc0 o) (hu : X.A.units < cLine) (hc : X.calm = true) (hN : X.N.Nodup) (hy : X.N[i]? = some y) (hyl : X.env.scope.names.lookup y = some .local)
    (hsw : swapsWith (.DictComp kx vx [⟨tg, iter, ifs, 0⟩] scope pos) (some (.Name y py)) spos.line X.env = pure true) (hi : PI X tg iter wi) (ok : BlkOk X.N X.env.scope scope own)
    (hg : ∀ (s : Shared) (H : Hp) (C : Addr) (cl : List (Str × Addr)) (fp : List Addr), PG (X.blk s H scope (compEnvC scope cl C X.env) fp) tg g) (ht : ∀ (s : Shared) (H : Hp) (C : Addr) (cl : List (Str × Addr)) (fp : List Addr), PTs (X.blk s H scope (compEnvC scope cl C X.env) fp) ifs tt)
    (hk : ∀ (s : Shared) (H : Hp) (C : Addr) (cl : List (Str × Addr)) (fp : List Addr), PE (X.blk s H scope (compEnvC scope cl C X.env) fp) kx tk)
    (he : ∀ (s : Shared) (H : Hp) (C : Addr) (cl : List (Str × Addr)) (fp : List Addr), PE (X.blk s H scope (compEnvC scope cl C X.env) fp) vx tv) (hs : ∀ x, foldedSetIterable iter X.env x = pure x := by intro _; rfl) :
    PS X (.Assign [.Name y py] (.DictComp kx vx [⟨tg, iter, ifs, 0⟩] scope pos) spos) (tAsg (tDcG o wi g tt tk tv (own.map (·.2))) (gName i)) := by
  refine ⟨fun pins s σ H D I h => ?_⟩
  rw [exec_Assign_Name_used _ _ _ _ hsw]
  refine wpAny_bind (wpAny_standAt (wpAny_bind ?_))
  show wpAny _ X.A (do let _ ← comprehension (.DictComp kx vx [⟨tg, iter, ifs, 0⟩] scope pos) scope X.env (firstIterPos [⟨tg, iter, ifs, 0⟩] pos) newDict false (eval iter X.env) (some (assign (.Name y py) X.env))) _ _ s
  have h : tDcG o wi g tt tk tv (own.map (·.2)) σ H (fun x H1 => gName i x σ H1 D.nx) := h
  refine wpAny_bind (thn (dcG_core (Qf := fun _ s' => SP X pins D .next s') c0 hu hc hN hi ok hg ht hk he hs I h fun L C s' m H' I' q hn f => ?_) fun _ s' hq => wpAny_pure (wpAny_pure hq))
  show wpAny _ _ (assign (.Name y py) X.env (.ref L)) _ _ _
  refine wpAny_assign_Name (store_ok2 (v := V.ref L) I' hN hy (.inl hyl) rfl (fun s2 I2 ⟨a, sb, ha⟩ => ?_) (.inr hyl))
  obtain ⟨f0, f1, f2, f3, f4, f5⟩ := f
  have haC : C ≠ a := by
    rcases ha with z | z
    · rw [z]; exact f1
    · exact fun e => f4 y a z e.symm
  refine ⟨m, hn.sameBut sb haC, fun h3 sb3 => ?_⟩
  exact ⟨_, H', I2.turned (t' := s2.toks) (fun b o hb e => (sb3.2 b hb).trans e) f0 f1 f3 f4 f5, q⟩
theorem sw_trueD {kx vx : Expr} {gs : List Comprehension} {scope : Scope} {pos py : Pos} {y : Str} {l : Nat} {env : Env} (hk : env.scope.kind = .function) (hy : env.scope.names.lookup y = some .local) (hl : (py.line == pos.line) = true)
    (ha : (scope.names.any fun (n, k) => n == y && (k == .local || k == .cell)) = false) : swapsWith (.DictComp kx vx gs scope pos) (some (.Name y py)) l env = pure true := by
  have ky : env.kindOf y = some .local := hy
  have hb : env.blockKind = .function := by unfold Env.blockKind; rw [hk]; rfl
  unfold swapsWith
  simp only [hb, ky, ha, Expr.pos, hl]
  rfl
end
end L2
/-! Dl36: {key: value for ..}, the keys tuples, each one new -/
namespace DL
open PySem PySem.Spec PyProof.Rows L2 Evl
def dcT (g : DG) (tt : DT) (tk tv : DE) (δ : DS) (Q : List (D × D) → Prop) : List D → List (D × D) → Prop
  | [], acc => Q acc
  | d :: ds, acc => g d δ fun δ' => tt δ' fun b => if b = true then tk δ' fun y => tv δ' fun z => ((dkT y).isSome = true ∧ (acc.any fun p => keqD p.1 y) = false) ∧ dcT g tt tk tv δ Q ds (acc ++ [(y, z)]) else dcT g tt tk tv δ Q ds acc
def dDc (ri : DA) (g : DG) (tt : DT) (tk tv : DE) (vs : List Nat) : DE := fun δ Q => ri δ fun ds => ds.length < sizeLine ∧ dcT g tt tk tv (wipeD δ vs) (fun kv => Q (.dic kv)) ds []
section
variable {K : PySem.W.Frag} {B : Bx} {G : Hp}
theorem DatT.any {k : List Key} : ∀ {vs : List (List Key × V)} {xs : List (D × D)}, DatT K B G vs xs → (vs.any fun kv => decide (kv.1 = k)) = xs.any fun z => keqD z.1 (embT k)
  | _, _, .nil => rfl
  | _, _, .cons (k := i) _ t => by
    rw [List.any_cons, List.any_cons, DatT.any t]
    show (decide (i = k) || _) = (keqD (embT i) (embT k) || _)
    rw [keqD_T]
theorem DatT.snoc {k : List Key} {v : V} {d : D} (h : Dat K B G v d) : ∀ {vs : List (List Key × V)} {xs : List (D × D)}, DatT K B G vs xs → DatT K B G (vs ++ [(k, v)]) (xs ++ [(embT k, d)])
  | _, _, .nil => .cons h .nil
  | _, _, .cons a t => .cons a (DatT.snoc h t)
theorem lift_dc {ri : DA} {g : DG} {is : List Nat} {tt : DT} {tk tv : DE} {vs : List Nat} {σ : L2.St} {H : Hp} {P : VK} (hv : ∀ i ∈ is, i ∈ vs) (q : liftE K B (dDc ri g tt tk tv vs) σ H P) :
    tDcG (.dT []) (liftI K B ri) (liftG K B is g) (liftT K B tt) (liftE K B tk) (liftE K B tv) vs σ H fun v H1 => ∃ d u, H1 d = some u ∧ Mut (some u) ∧ ∀ od, P v (upd H1 d (.frz od u)) := by
  obtain ⟨H0, G, δ, Q, j, st, hr, k⟩ := q
  refine ⟨H0, G, δ, _, j, st, hr, fun ds J G2 H2 q2 g2 it p hp => ?_⟩
  obtain ⟨hz, q2⟩ := q2
  have nb : p ≠ B.b := Gr.neB g2.j hp
  have gp : G2 p = none := fresh_back g2.j.ex hp
  have st2 := (st.gr g2)
  refine ⟨fun i m H' => i + m = ds.length ∧ ∃ G' acc accD, Gr K B G2 H2 G' H' ∧ G' p = none ∧ H' p = some (.dT acc) ∧ DatT K B G' acc accD ∧ acc.length ≤ i ∧ dcT g tt tk tv (wipeD δ vs) (fun kv => Q (.dic kv)) (ds.drop i) accD,
    ⟨ds.length, by omega, G2, [], [], Gr.new0 g2.j hp, gp, upd_same, .nil, Nat.le_refl _, q2⟩, fun i m H' hw => ?_⟩
  obtain ⟨em, G', acc, accD, gr, gp', hp', ha, hl, hf⟩ := hw
  by_cases hlt : i < ds.length
  · refine .inr ⟨it.go i G' H' gr.ex gr.j hlt, fun H1 => ∃ G1 acc accD, Gr K B G2 H2 G1 H1 ∧ G1 p = none ∧ H1 p = some (.dT acc) ∧ DatT K B G1 acc accD ∧ acc.length ≤ i + 1 ∧ dcT g tt tk tv (wipeD δ vs) (fun kv => Q (.dic kv)) (ds.drop (i + 1)) accD, fun H1 hn => ⟨m - 1, by omega, by omega, hn⟩, fun x H1 hy => ?_⟩
    have hd : ds[i]? = some ds[i] := List.getElem?_eq_getElem hlt
    obtain ⟨G3, g3, hx⟩ := it.yld i G' H' x H1 _ gr.ex gr.j hy hd
    rw [List.drop_eq_getElem_cons hlt] at hf
    have hpn : Mu H' p := ⟨_, hp', fun _ z => by cases z⟩
    refine ⟨H0, G3, wipeD δ vs, ds[i], _, g3.j, (st2.gr (gr.trans g3)).wipe vs, hx, hf, fun σ2 δ2 q3 s3 u3 => ?_⟩
    refine ⟨by rw [u3.wipe hv, wipe_wipe], H0, G3, δ2, _, g3.j, s3, q3, fun b G4 H4 q4 g4 => ?_⟩
    have g34 := g3.trans g4
    cases b with
    | false =>
      exact ⟨G4, acc, accD, gr.trans g34, by rw [g34.old p hpn]; exact gp', g34.keep p _ nb hp', ha.mono g34.ex, Nat.le_succ_of_le hl, q4⟩
    | true =>
      refine ⟨H0, G4, δ2, _, g4.j, s3.gr g4, q4, fun y u G5 H5 q5 g5 h5 => ?_⟩
      refine ⟨H0, G5, δ2, _, g5.j, (s3.gr g4).gr g5, q5, fun z w G6 H6 q6 g6 h6 => ?_⟩
      obtain ⟨⟨hk, hn⟩, q6⟩ := q6
      have g36 := (g34.trans g5).trans g6
      have gp6 : G6 p = none := by rw [g36.old p hpn]; exact gp'
      obtain ⟨kk, ek⟩ := Option.isSome_iff_exists.mp hk
      obtain ⟨b, eu, eb⟩ := keyT (h5.mono g6.ex) ek
      have ey := emb_dkT ek
      subst eu ey
      have e : putK acc kk w = acc ++ [(kk, w)] := by
        unfold putK
        rw [if_neg]
        rw [ha.any, hn]
        exact Bool.false_ne_true
      refine ⟨upd H6 p (.dT (putK acc kk w)), .inr ⟨acc, kk, b, g36.keep p _ nb hp', rfl, g6.j.ex _ _ eb, by omega, rfl⟩, G6, acc ++ [(kk, w)], _, (gr.trans g36).own hp gp6 nb, gp6, by rw [e]; exact upd_same, DatT.snoc h6 (ha.mono g36.ex), ?_, q6⟩
      rw [List.length_append]
      show acc.length + 1 ≤ i + 1
      omega
  · have e : i = ds.length := by omega
    subst e
    rw [List.drop_length] at hf
    refine .inl ⟨it.stop _ G' H' gr.ex gr.j (Nat.le_refl _), p, _, hp', trivial, fun od => ?_⟩
    have g3 : Gr K B G H G' (upd H' p (.frz od (.dT acc))) := (g2.trans gr).own (g2.free hp) gp' nb
    exact k _ _ _ _ hf (g3.frz (g2.free hp) gp' nb upd_same) (.dT upd_same (ha.mono (Ex.new gp')))
end
section
variable {X : Cx} {B : Bx}
theorem pd_dc {kx vx tg iter : Expr} {ifs : List Expr} {scope : Scope} {own : List (Str × Nat)} {pos : Pos} {ri : DA} {g : DG} {is : List Nat} {tt : DT} {tk tv : DE} (hu : X.A.units < cLine) (hc : X.calm = true) (hN : X.N.Nodup) (hi : PID X B tg iter ri) (ok : BlkOk X.N X.env.scope scope own) (hv : ∀ i ∈ is, i ∈ own.map (·.2))
    (hg : ∀ (s : Shared) (H : Hp) (C : Addr) (cl : List (Str × Addr)) (fp : List Addr), PGD (X.blk s H scope (compEnvC scope cl C X.env) fp) B tg is g) (ht : ∀ (s : Shared) (H : Hp) (C : Addr) (cl : List (Str × Addr)) (fp : List Addr), PTsD (X.blk s H scope (compEnvC scope cl C X.env) fp) B ifs tt)
    (hk : ∀ (s : Shared) (H : Hp) (C : Addr) (cl : List (Str × Addr)) (fp : List Addr), PD (X.blk s H scope (compEnvC scope cl C X.env) fp) B kx tk)
    (he : ∀ (s : Shared) (H : Hp) (C : Addr) (cl : List (Str × Addr)) (fp : List Addr), PD (X.blk s H scope (compEnvC scope cl C X.env) fp) B vx tv) (hs : ∀ x, foldedSetIterable iter X.env x = pure x := by intro _; rfl) :
    PD X B (.DictComp kx vx [⟨tg, iter, ifs, 0⟩] scope pos) (dDc ri g tt tk tv (own.map (·.2))) := pe_lockR (pe_dcG (.inr rfl) hu hc hN hi ok hg ht hk he hs) fun _ _ _ q => lift_dc hv q
end
section
variable {ri : DA} {g : DG} {tt : DT} {tk tv : DE} {vs : List Nat} {δ : DS} {Q : D → Prop}
theorem z_dc : dDc ri g tt tk tv vs δ Q = ri δ fun ds => ds.length < sizeLine ∧ dcT g tt tk tv (wipeD δ vs) (fun kv => Q (.dic kv)) ds [] := propext Iff.rfl
end
end DL
/-! Dl37: == and repr where dicts stand among the data -/
namespace DL
open PySem PySem.Spec PyProof.Rows L2 Evl
section
variable {prog : Program} {w : World} {A : Around} {E : Value → Shared → Prop} {s : Shared}
abbrev XT := List (List Key × Addr × Value)
inductive HitsH (prog : Program) (w : World) (A : Around) (s : Shared) (xb : XT) : XT → Bool → Prop
  | nil : HitsH prog w A s xb [] true
  | miss {k : List Key} {p : Addr × Value} {r : XT} : (∀ (j : Nat) (q : Addr × Value), xb[j]? ≠ some (k, q)) → HitsH prog w A s xb ((k, p) :: r) false
  | hit {k : List Key} {a : Addr} {v : Value} {j : Nat} {b : Addr} {y : Value} {r : XT} {e b' : Bool} : xb[j]? = some (k, (b, y)) → SeqAt.EqP prog w A s v y e → HitsH prog w A s xb r b' → HitsH prog w A s xb ((k, (a, v)) :: r) (e && b')
theorem HitsH.inv {xb : XT} {k : List Key} {a : Addr} {v : Value} {r : XT} {b : Bool} (h : HitsH prog w A s xb ((k, (a, v)) :: r) b) :
    ((∀ (j : Nat) (q : Addr × Value), xb[j]? ≠ some (k, q)) ∧ b = false) ∨ ∃ (j : Nat) (b0 : Addr) (y : Value) (e b' : Bool), xb[j]? = some (k, (b0, y)) ∧ SeqAt.EqP prog w A s v y e ∧ HitsH prog w A s xb r b' ∧ b = (e && b') := by
  cases h with
  | miss hn => exact .inl ⟨hn, rfl⟩
  | hit hy he hr => exact .inr ⟨_, _, _, _, _, hy, he, hr, rfl⟩
theorem samePairsH {nm : String} {a b : Addr} {xa xb : XT} {r : Bool} {Q : Bool → Shared → Prop} (hu : A.units < cLine) (ha : (a == sysModules) = false) (hb : (b == sysModules) = false)
    (da : s.heap.DictOfH (tupleKind (mixKind prog w)) a xa) (db : s.heap.DictOfH (tupleKind (mixKind prog w)) b xb) (hits : xa.length = xb.length → HitsH prog w A s xb xa r) (h : Q (xa.length == xb.length && r) s) :
    wpAny (model prog w) A (Builtin.Dict.samePairs nm a b) Q E s := by
  obtain ⟨oa, es, ep, hoa, _, hda, hea, hka, hna⟩ := da
  obtain ⟨ob, es', ep', hob, _, hdb, heb, hkb, hnb⟩ := db
  have hla : xa.length = es.size := (size_of_entries hea).symm
  have hlb : xb.length = es'.size := (size_of_entries heb).symm
  rw [hla, hlb] at h
  unfold Builtin.Dict.samePairs Builtin.Dict.showsAll
  rw [if_neg (show ¬ (a == sysModules) = true by rw [ha]; exact Bool.false_ne_true), if_neg (show ¬ (b == sysModules) = true by rw [hb]; exact Bool.false_ne_true)]
  refine wpAny_bind (wpAny_pure (wpAny_bind (wpAny_pure ?_)))
  refine wpAny_bind (wpAny_dictEntries hoa hda ?_)
  dsimp only
  refine wpAny_bind (wpAny_dictEntries hob hdb ?_)
  by_cases hsz : es.size = es'.size
  case neg =>
    rw [if_pos (by simpa using hsz)]
    have hbf : (es.size == es'.size) = false := by simpa using hsz
    rw [hbf, Bool.false_and] at h
    exact wpAny_bind (wpAny_rule (wpAny_pure h))
  case pos =>
    have h' : Q r s := by simpa [hsz] using h
    have hits' := hits (by rw [hla, hlb]; exact hsz)
    rw [if_neg (by rw [hsz]; simp)]
    refine wpAny_bind (wpAny_dictEpoch hoa hda ?_)
    refine wpAny_bind ?_
    rw [Std.Legacy.Range.forIn_eq_forIn_range']
    simp only [Std.Legacy.Range.size, Nat.sub_zero, Nat.add_sub_cancel, Nat.div_one]
    refine wpAny_forIn_list _
      (fun rest q s' => s' = s ∧ q = (none, ()) ∧ ∃ i, rest = List.range' i (es.size - i) ∧ i ≤ es.size ∧ HitsH prog w A s xb (xa.drop i) r)
      _ ?_ ?_ _ _ ⟨rfl, rfl, 0, by simp, Nat.zero_le _, hits'⟩
    · rintro x rest q s' ⟨rfl, rfl, i, hr, hi, hpre⟩
      have hlt : i < es.size := by
        rcases Nat.lt_or_ge i es.size with h | h
        · exact h
        · rw [Nat.sub_eq_zero_of_le h] at hr; simp at hr
      obtain ⟨rfl, hrest⟩ : x = i ∧ rest = List.range' (i + 1) (es.size - (i + 1)) := by
        have e : es.size - i = (es.size - (i + 1)) + 1 := by omega
        rw [e, List.range'_succ] at hr
        injection hr with h1 h2
        exact ⟨h1, h2⟩
      refine wpAny_bind (wpAny_dictEntries hoa hda ?_)
      have hlt' : x < xa.length := by rw [hla]; exact hlt
      obtain ⟨k, p, v, hkv⟩ : ∃ k p v, xa[x] = (k, (p, v)) := ⟨_, _, _, rfl⟩
      have hdrop : xa.drop x = (k, (p, v)) :: xa.drop (x + 1) := by rw [← hkv]; exact List.drop_eq_getElem_cons hlt'
      have hxe : es[x]? = some (entryOfKey (tupleKind (mixKind prog w)) (k, (p, v))) := by rw [entry_at hea x, List.getElem?_eq_getElem hlt', hkv]; rfl
      have hkey := hka (k, (p, v)) (by rw [← hkv]; exact List.getElem_mem hlt')
      rw [hxe]
      rw [hdrop] at hpre
      show wpAny _ _ (holding [Value.ref p, v] _ >>= _) _ _ _
      refine wpAny_bind (wpAny_holding (wpAny_bind (wpAny_dictFind_heap (knd := tupleKind (mixKind prog w)) hu hkey hob hdb heb hkb hnb (fun hno => ?_) (fun j pq hj => ?_))))
      · rcases hpre.inv with ⟨_, er⟩ | ⟨j, _, _, _, _, hy, _⟩
        · rw [er] at h'
          refine wpAny_pure ?_
          show wpAny _ _ (if (!false) = true then _ else _) _ _ _
          rw [if_pos (by decide)]
          exact wpAny_pure (wpAny_pure h')
        · exact absurd hy (hno j _)
      · obtain ⟨q1, q2⟩ := pq
        refine wpAny_bind (wpAny_dictEntries hob hdb ?_)
        have hje : es'[j]? = some (entryOfKey (tupleKind (mixKind prog w)) (k, (q1, q2))) := by rw [entry_at heb j, hj]; rfl
        rw [hje]
        rcases hpre.inv with ⟨hn, _⟩ | ⟨j2, b0, y, e, b', hy, he, hrr, er⟩
        · exact absurd hj (hn j _)
        · have ej : j2 = j := idxH_unique hnb hy hj
          subst ej
          rw [hj] at hy
          have ey : q2 = y := by injection hy with hy; injection hy with _ hy; injection hy
          rw [← ey] at he
          refine wpAny_holding (he _ _ ?_)
          cases e with
          | false =>
            rw [er, Bool.false_and] at h'
            show wpAny _ _ (if (!false) = true then _ else _) _ _ _
            rw [if_pos (by decide)]
            exact wpAny_pure (wpAny_pure h')
          | true =>
            rw [Bool.true_and] at er
            rw [← er] at hrr
            show wpAny _ _ (if (!true) = true then _ else _) _ _ _
            rw [if_neg (by decide)]
            refine wpAny_bind (wpAny_dictEpoch hoa hda ?_)
            rw [if_neg (by simp)]
            exact wpAny_pure ⟨rfl, rfl, x + 1, hrest, hlt, hrr⟩
    · rintro q s' ⟨rfl, rfl, i, hr, hi, hpre⟩
      have hin : i = es.size := by
        rcases Nat.lt_or_ge i es.size with h | h
        · have e : es.size - i = (es.size - (i + 1)) + 1 := by omega
          rw [e, List.range'_succ] at hr; exact nomatch hr
        · exact Nat.le_antisymm hi h
      refine wpAny_pure ?_
      rw [hin, ← hla, List.drop_length] at hpre
      cases hpre
      exact h'
theorem rcH_eq {a b : Addr} {xa xb : XT} {r : Bool} (ha : (a == sysModules) = false) (hb : (b == sysModules) = false) (da : s.heap.DictOfH (tupleKind (mixKind prog w)) a xa) (db : s.heap.DictOfH (tupleKind (mixKind prog w)) b xb)
    (hu : A.units + 1 < cLine) (hits : xa.length = xb.length → HitsH prog w A.in1 s xb xa r) (E Q : Value → Shared → Prop) (h : Q (.bool (xa.length == xb.length && r)) s) : wpAny (model prog w) A (richCompare .Eq (.ref a) (.ref b)) Q E s := by
  refine wpAny_richCompare_same_room (op := .Eq) da.typeIs db.typeIs PySem.F.slot_dict_eq (wpAny_call_entry PySem.F.slot_dict_eq da.typeIs PySem.F.entry_dict_eq ?_ (PySem.F.args_dict_eq_2 _ _)) (by omega)
  show wpAny _ _ (Builtin.Dict.dictSlotArgs "__eq__" ⟨[.ref a, .ref b], []⟩ >>= _) _ _ s
  refine wpAny_bind ?_
  unfold Builtin.Dict.dictSlotArgs
  refine wpAny_bind (wpAny_notOrdered_dict da.typeIs ?_)
  show wpAny _ _ (pure (Value.ref a, Value.ref b)) _ _ s
  refine wpAny_pure ?_
  refine wpAny_bind (wpAny_isInstance (T := "dict") db.typeIs PySem.F.sub_dict_dict ?_)
  simp only [Bool.not_true, Bool.false_eq_true, if_false]
  refine wpAny_bind (wpAny_pure (wpAny_bind (wpAny_pure ?_)))
  refine wpAny_bind (samePairsH (A := A.in1) (show A.units + 1 < cLine from hu) ha hb da db hits ?_)
  refine wpAny_pure ⟨_, rfl, ?_, ?_⟩
  · exact fun x => nomatch x
  · simpa using h
theorem rcH_ne {a b : Addr} {xa xb : XT} {r : Bool} (ha : (a == sysModules) = false) (hb : (b == sysModules) = false) (da : s.heap.DictOfH (tupleKind (mixKind prog w)) a xa) (db : s.heap.DictOfH (tupleKind (mixKind prog w)) b xb)
    (hu : A.units + 1 < cLine) (hits : xa.length = xb.length → HitsH prog w A.in1 s xb xa r) (E Q : Value → Shared → Prop) (h : Q (.bool (!(xa.length == xb.length && r))) s) : wpAny (model prog w) A (richCompare .NotEq (.ref a) (.ref b)) Q E s := by
  refine wpAny_richCompare_same_room (op := .NotEq) da.typeIs db.typeIs PySem.F.slot_dict_ne (wpAny_call_entry PySem.F.slot_dict_ne da.typeIs PySem.F.entry_dict_ne ?_ (PySem.F.args_dict_ne_2 _ _)) (by omega)
  show wpAny _ _ (Builtin.Dict.dictSlotArgs "__ne__" ⟨[.ref a, .ref b], []⟩ >>= _) _ _ s
  refine wpAny_bind ?_
  unfold Builtin.Dict.dictSlotArgs
  refine wpAny_bind (wpAny_notOrdered_dict da.typeIs ?_)
  show wpAny _ _ (pure (Value.ref a, Value.ref b)) _ _ s
  refine wpAny_pure ?_
  refine wpAny_bind (wpAny_isInstance (T := "dict") db.typeIs PySem.F.sub_dict_dict ?_)
  simp only [Bool.not_true, Bool.false_eq_true, if_false]
  refine wpAny_bind (wpAny_pure (wpAny_bind (wpAny_pure ?_)))
  refine wpAny_bind (samePairsH (A := A.in1) (show A.units + 1 < cLine from hu) ha hb da db hits ?_)
  refine wpAny_pure ⟨_, rfl, ?_, ?_⟩
  · exact fun x => nomatch x
  · simpa using h
end
end DL
/-! Dl38: == over data with dicts -/
namespace DL
open PySem PySem.Spec PyProof.Rows L2 Evl
mutual
def eqG : D → D → Bool
  | .lst xs, .lst ys => eqGs xs ys
  | .tup xs, .tup ys => eqGs xs ys
  | .dic ks, .dic ls => (ks.length == ls.length) && eqGk ls ks
  | x, y => eqb x y
def eqGs : List D → List D → Bool
  | [], [] => true
  | x :: xs, y :: ys => eqG x y && eqGs xs ys
  | _, _ => false
def eqGk (ls : List (D × D)) : List (D × D) → Bool
  | [] => true
  | (k, v) :: r => (match lookK ls k with
    | some y => eqG v y && eqGk ls r
    | none => false)
end
def nodupK : List (D × D) → Bool
  | [] => true
  | (k, _) :: r => keqD k k && !(r.any fun z => keqD k z.1) && nodupK r
mutual
def okG : D → Bool
  | .dic ks => nodupK ks && okGk ks
  | .lst xs => okGs xs
  | .tup xs => okGs xs
  | .obj _ _ => false
  | .bag => false
  | .ktup _ => false
  | _ => true
def okGs : List D → Bool
  | [] => true
  | x :: xs => okG x && okGs xs
def okGk : List (D × D) → Bool
  | [] => true
  | (k, v) :: r => okG k && okG v && okGk r
end
def kfit (ks ls : List (D × D)) : Bool := (ks.all (fun z => (dk1 z.1).isSome) && ls.all (fun z => (dk1 z.1).isSome)) || (ks.all (fun z => (dkT z.1).isSome) && ls.all (fun z => (dkT z.1).isSome))
mutual
def cmpG : D → D → Bool
  | .lst xs, .lst ys => (plain (.lst xs) && plain (.lst ys)) || (okGs xs && okGs ys && cmpGs xs ys)
  | .dic ks, .dic ls => kfit ks ls && (okG (.dic ks) && okG (.dic ls)) && cmpGk ls ks
  | x, y => plain x && plain y
def cmpGs : List D → List D → Bool
  | [], [] => true
  | x :: xs, y :: ys => cmpG x y && cmpGs xs ys
  | _, _ => false
def cmpGk (ls : List (D × D)) : List (D × D) → Bool
  | [] => true
  | (k, v) :: r => (match lookK ls k with
    | some y => cmpG v y
    | none => true) && cmpGk ls r
end
mutual
def D.nst : D → Nat
  | .lst xs => nstL xs + 1
  | .dic ks => nstK ks + 1
  | _ => 0
def nstL : List D → Nat
  | [] => 0
  | x :: xs => max (D.nst x) (nstL xs)
def nstK : List (D × D) → Nat
  | [] => 0
  | (_, v) :: r => max (D.nst v) (nstK r)
end
mutual
theorem eqG_fine : ∀ (x y : D), x.fine = true → y.fine = true → eqG x y = eqb x y
  | .lst xs, .lst ys, h, h' => by
    rw [eqG, eqb, D.py, D.py, PyData.eqv]
    exact eqGs_fine xs ys (by simpa [D.fine] using h) (by simpa [D.fine] using h')
  | .tup xs, .tup ys, h, h' => by
    rw [eqG, eqb, D.py, D.py, PyData.eqv]
    exact eqGs_fine xs ys (by simpa [D.fine] using h) (by simpa [D.fine] using h')
  | .dic _, .dic _, h, _ => by simp [D.fine] at h
  | .non, y, _, _ => by cases y <;> rfl
  | .bl _, y, _, _ => by cases y <;> rfl
  | .int _, y, _, _ => by cases y <;> rfl
  | .str _, y, _, _ => by cases y <;> rfl
  | .obj _ _, y, _, _ => by cases y <;> rfl
  | .bag, y, _, _ => by cases y <;> rfl
  | .ktup _, y, _, _ => by cases y <;> rfl
  | .lst xs, .non, _, _ => rfl
  | .lst xs, .bl _, _, _ => rfl
  | .lst xs, .int _, _, _ => rfl
  | .lst xs, .str _, _, _ => rfl
  | .lst xs, .tup _, _, _ => rfl
  | .lst xs, .dic _, _, _ => rfl
  | .lst xs, .obj _ _, _, _ => rfl
  | .lst xs, .bag, _, _ => rfl
  | .lst xs, .ktup _, _, _ => rfl
  | .tup xs, .non, _, _ => rfl
  | .tup xs, .bl _, _, _ => rfl
  | .tup xs, .int _, _, _ => rfl
  | .tup xs, .str _, _, _ => rfl
  | .tup xs, .lst _, _, _ => rfl
  | .tup xs, .dic _, _, _ => rfl
  | .tup xs, .obj _ _, _, _ => rfl
  | .tup xs, .bag, _, _ => rfl
  | .tup xs, .ktup _, _, _ => rfl
  | .dic _, .non, _, _ => rfl
  | .dic _, .bl _, _, _ => rfl
  | .dic _, .int _, _, _ => rfl
  | .dic _, .str _, _, _ => rfl
  | .dic _, .lst _, _, _ => rfl
  | .dic _, .tup _, _, _ => rfl
  | .dic _, .obj _ _, _, _ => rfl
  | .dic _, .bag, _, _ => rfl
  | .dic _, .ktup _, _, _ => rfl
theorem eqGs_fine : ∀ (xs ys : List D), fineL xs = true → fineL ys = true → eqGs xs ys = PyData.eqvAll (pyL xs) (pyL ys)
  | [], [], _, _ => by rw [eqGs, pyL, PyData.eqvAll]
  | x :: xs, y :: ys, h, h' => by
    have a : x.fine = true ∧ fineL xs = true := by simpa [fineL] using h
    have b : y.fine = true ∧ fineL ys = true := by simpa [fineL] using h'
    rw [eqGs, pyL, pyL, PyData.eqvAll, eqG_fine x y a.1 b.1, eqGs_fine xs ys a.2 b.2, eqb]
  | [], _ :: _, _, _ => by rw [eqGs, pyL, pyL, PyData.eqvAll] <;> simp
  | _ :: _, [], _, _ => by rw [eqGs, pyL, pyL, PyData.eqvAll] <;> simp
end
theorem lookK_cons {α : Type} {k y : D} {v : α} {r : List (D × α)} : lookK ((k, v) :: r) y = if keqD k y = true then some v else lookK r y := by
  unfold lookK
  rw [List.find?_cons]
  by_cases h : keqD k y = true
  · rw [if_pos h]; simp [h]
  · rw [if_neg h]; simp [h]
theorem look_self : ∀ {ks : List (D × D)}, nodupK ks = true → ∀ k v, (k, v) ∈ ks → lookK ks k = some v
  | [], _, _, _, h => nomatch h
  | (k0, v0) :: r, h, k, v, hm => by
    have h' : (keqD k0 k0 = true ∧ (r.any fun z => keqD k0 z.1) = false) ∧ nodupK r = true := by simpa [nodupK] using h
    rw [lookK_cons]
    rcases List.mem_cons.mp hm with e | hm
    · cases e
      rw [if_pos h'.1.1]
    · have : keqD k0 k = false := by
        have := List.any_eq_false.mp h'.1.2 (k, v) hm
        simpa using this
      rw [if_neg (by rw [this]; decide)]
      exact look_self h'.2 k v hm
mutual
theorem eqG_refl : ∀ x : D, okG x = true → eqG x x = true
  | .lst xs, h => by rw [eqG]; exact eqGs_refl xs (by simpa [okG] using h)
  | .tup xs, h => by rw [eqG]; exact eqGs_refl xs (by simpa [okG] using h)
  | .dic ks, h => by
    have h' : nodupK ks = true ∧ okGk ks = true := by simpa [okG] using h
    rw [eqG, eqGk_refl ks ks (fun k v hm => look_self h'.1 k v hm) h'.2]
    simp
  | .non, _ => by rw [eqG, eqb, D.py, PyData.eqv] <;> simp
  | .bl b, _ => by simp [eqG, eqb, D.py, PyData.eqv]
  | .int i, _ => by simp [eqG, eqb, D.py, PyData.eqv]
  | .str x, _ => by simp [eqG, eqb, D.py, PyData.eqv]
  | .obj _ _, h => by simp [okG] at h
  | .bag, h => by simp [okG] at h
  | .ktup _, h => by simp [okG] at h
theorem eqGs_refl : ∀ xs : List D, okGs xs = true → eqGs xs xs = true
  | [], _ => by rw [eqGs]
  | x :: xs, h => by
    have h' : okG x = true ∧ okGs xs = true := by simpa [okGs] using h
    rw [eqGs, eqG_refl x h'.1, eqGs_refl xs h'.2]
    rfl
theorem eqGk_refl (ls : List (D × D)) : ∀ ks : List (D × D), (∀ k v, (k, v) ∈ ks → lookK ls k = some v) → okGk ks = true → eqGk ls ks = true
  | [], _, _ => by rw [eqGk]
  | (k, v) :: r, hl, h => by
    have h' : (okG k = true ∧ okG v = true) ∧ okGk r = true := by simpa [okGk] using h
    rw [eqGk, hl k v List.mem_cons_self]
    show (eqG v v && eqGk ls r) = true
    rw [eqG_refl v h'.1.2, eqGk_refl ls r (fun k v hm => hl k v (List.mem_cons_of_mem _ hm)) h'.2]
    rfl
end
section
variable {K : PySem.W.Frag} {B : Bx} {G : Hp}
mutual
/-- what a value tells is one thing -/
theorem Dat.fn : ∀ {v : V} {d e : D}, Dat K B G v d → Dat K B G v e → okG d = true → okG e = true → d = e
  | _, _, _, .non, h, _, _ => by cases h; rfl
  | _, _, _, .bl b, h, _, _ => by cases h; rfl
  | _, _, _, .int i, h, _, _ => by cases h; rfl
  | _, _, _, .str x, h, _, _ => by cases h; rfl
  | _, _, _, .lst a t, h, o, o' => by
    cases h with
    | lst a' t' =>
      rw [a] at a'
      injection a' with a'; injection a' with a'
      subst a'
      rw [Dats.fn t t' (by simpa [okG] using o) (by simpa [okG] using o')]
    | tup a' t' => rw [a] at a'; injection a' with a'; cases a'
    | dK a' t' => rw [a] at a'; injection a' with a'; cases a'
    | dT a' t' => rw [a] at a'; injection a' with a'; cases a'
    | ktup _ _ => simp [okG] at o'
    | bag => simp [okG] at o'
    | obj _ _ _ => simp [okG] at o'
  | _, _, _, .tup a t, h, o, o' => by
    cases h with
    | tup a' t' =>
      rw [a] at a'
      injection a' with a'; injection a' with a'
      subst a'
      rw [Dats.fn t t' (by simpa [okG] using o) (by simpa [okG] using o')]
    | lst a' t' => rw [a] at a'; injection a' with a'; cases a'
    | dK a' t' => rw [a] at a'; injection a' with a'; cases a'
    | dT a' t' => rw [a] at a'; injection a' with a'; cases a'
    | ktup _ _ => simp [okG] at o'
    | bag => simp [okG] at o'
    | obj _ _ _ => simp [okG] at o'
  | _, _, _, .dK a t, h, o, o' => by
    have ho : okGk _ = true := (Bool.and_eq_true_iff.mp (by simpa [okG] using o)).2
    have ho' := o'
    cases h with
    | dK a' t' =>
      rw [a] at a'
      injection a' with a'; injection a' with _ a'; injection a' with a'
      subst a'
      rw [DatK.fn t t' ho (Bool.and_eq_true_iff.mp (by simpa [okG] using o')).2]
    | lst a' t' => rw [a] at a'; injection a' with a'; cases a'
    | tup a' t' => rw [a] at a'; injection a' with a'; cases a'
    | dT a' t' => rw [a] at a'; injection a' with a'; injection a' with _ a'; cases a'
    | ktup _ _ => simp [okG] at o'
    | bag => simp [okG] at o'
    | obj _ _ _ => simp [okG] at o'
  | _, _, _, .dT a t, h, o, o' => by
    have ho : okGk _ = true := (Bool.and_eq_true_iff.mp (by simpa [okG] using o)).2
    cases h with
    | dT a' t' =>
      rw [a] at a'
      injection a' with a'; injection a' with _ a'; injection a' with a'
      subst a'
      rw [DatT.fn t t' ho (Bool.and_eq_true_iff.mp (by simpa [okG] using o')).2]
    | lst a' t' => rw [a] at a'; injection a' with a'; cases a'
    | tup a' t' => rw [a] at a'; injection a' with a'; cases a'
    | dK a' t' => rw [a] at a'; injection a' with a'; injection a' with _ a'; cases a'
    | ktup _ _ => simp [okG] at o'
    | bag => simp [okG] at o'
    | obj _ _ _ => simp [okG] at o'
  | _, _, _, .ktup _ _, _, o, _ => by simp [okG] at o
  | _, _, _, .bag, _, o, _ => by simp [okG] at o
  | _, _, _, .obj _ _ _, _, o, _ => by simp [okG] at o
theorem Dats.fn : ∀ {v : List V} {d e : List D}, Dats K B G v d → Dats K B G v e → okGs d = true → okGs e = true → d = e
  | _, _, _, .nil, h, _, _ => by cases h; rfl
  | _, _, _, .cons a t, h, o, o' => by
    cases h with
    | cons a' t' =>
      have h1 := Bool.and_eq_true_iff.mp (by simpa only [okGs] using o)
      have h2 := Bool.and_eq_true_iff.mp (by simpa only [okGs] using o')
      rw [Dat.fn a a' h1.1 h2.1, Dats.fn t t' h1.2 h2.2]
theorem DatK.fn : ∀ {v : List (Key × V)} {d e : List (D × D)}, DatK K B G v d → DatK K B G v e → okGk d = true → okGk e = true → d = e
  | _, _, _, .nil, h, _, _ => by cases h; rfl
  | _, _, _, .consI a t, h, o, o' => by
    cases h with
    | consI a' t' =>
      have h1 := Bool.and_eq_true_iff.mp (by simpa only [okGk] using o)
      have h2 := Bool.and_eq_true_iff.mp (by simpa only [okGk] using o')
      rw [Dat.fn a a' (Bool.and_eq_true_iff.mp h1.1).2 (Bool.and_eq_true_iff.mp h2.1).2, DatK.fn t t' h1.2 h2.2]
  | _, _, _, .consS a t, h, o, o' => by
    cases h with
    | consS a' t' =>
      have h1 := Bool.and_eq_true_iff.mp (by simpa only [okGk] using o)
      have h2 := Bool.and_eq_true_iff.mp (by simpa only [okGk] using o')
      rw [Dat.fn a a' (Bool.and_eq_true_iff.mp h1.1).2 (Bool.and_eq_true_iff.mp h2.1).2, DatK.fn t t' h1.2 h2.2]
theorem DatT.fn : ∀ {v : List (List Key × V)} {d e : List (D × D)}, DatT K B G v d → DatT K B G v e → okGk d = true → okGk e = true → d = e
  | _, _, _, .nil, h, _, _ => by cases h; rfl
  | _, _, _, .cons a t, h, o, o' => by
    cases h with
    | cons a' t' =>
      have h1 := Bool.and_eq_true_iff.mp (by simpa only [okGk] using o)
      have h2 := Bool.and_eq_true_iff.mp (by simpa only [okGk] using o')
      rw [Dat.fn a a' (Bool.and_eq_true_iff.mp h1.1).2 (Bool.and_eq_true_iff.mp h2.1).2, DatT.fn t t' h1.2 h2.2]
end
end

section
variable {X : Cx} {B : Bx} {pins : List (Addr × Obj)} {σ : L2.St} {G H : Hp} {s : Shared}
def RcP (P : Program) (w : World) (A : Around) (s : Shared) (v u : Value) (b : Bool) : Prop := ∀ (E Q : Value → Shared → Prop), Q (.bool b) s → wpAny (model P w) A (richCompare .Eq v u) Q E s
/-- two data, compared in a state -/
def EqB (X : Cx) (B : Bx) (G : Hp) (s : Shared) (A : Around) (d e : D) : Prop := ∀ (x y : V) (v u : Value), Dat X.K B G x d → Dat X.K B G y e → RelV x v → RelV y u → SeqAt.EqP X.prog X.w A s v u (eqG d e)
theorem eqB_plain (I : Inv X pins σ H s) (e : Ex G H) {d d' : D} {A : Around} (hu : A.units + 64 < cLine) (p : plain d = true) (p' : plain d' = true) {x y : V} {v u : Value} (hx : Dat X.K B G x d) (hy : Dat X.K B G y d') (rx : RelV x v) (ry : RelV y u) :
    SeqAt.EqP X.prog X.w A s v u (eqG d d') ∧ RcP X.prog X.w A s v u (eqG d d') := by
  have f := (Bool.and_eq_true_iff.mp p).1
  have f' := (Bool.and_eq_true_iff.mp p').1
  rw [eqG_fine d d' f f']
  obtain ⟨as, ra⟩ := Dp.reads I _ _ _ (dat_dp e hx f) rx
  obtain ⟨bs, rb⟩ := Dp.reads I _ _ _ (dat_dp e hy f') ry
  have sh := plain_shaped p
  exact ⟨(SeqAt.eqAt_reads _ _ A s v u as bs ra rb (py_lay d f) (py_lay d' f') (SeqAt.room_of_shaped sh hu)).eqP,
    fun E Q h => SeqAt.eqOverData X.prog X.w A E s v u _ _ as bs Q ra rb (py_lay d f) (py_lay d' f') (SeqAt.room_of_shaped sh hu) h⟩
theorem lookK_K : ∀ {kvs : List (Key × V)} {ks : List (D × D)}, DatK X.K B G kvs ks → ∀ k : Key, (valV kvs k = none ∧ lookK ks (embK k) = none) ∨ ∃ v d, valV kvs k = some v ∧ lookK ks (embK k) = some d ∧ Dat X.K B G v d
  | _, _, .nil, k => .inl ⟨rfl, rfl⟩
  | _, _, .consI (i := i) h t, k => by
    rw [lookK_cons]
    have q : keqD (.int i) (embK k) = decide ((.inl i : Key) = k) := keqD_K (.inl i) k
    by_cases e : (.inl i : Key) = k
    · rw [valV_pos (p := (Sum.inl i, _)) e, if_pos (by rw [q]; exact decide_eq_true e)]
      exact .inr ⟨_, _, rfl, rfl, h⟩
    · rw [valV_neg (p := (Sum.inl i, _)) e, if_neg (by rw [q, decide_eq_false e]; decide)]
      exact lookK_K t k
  | _, _, .consS (x := i) h t, k => by
    rw [lookK_cons]
    have q : keqD (.str i) (embK k) = decide ((.inr i : Key) = k) := keqD_K (.inr i) k
    by_cases e : (.inr i : Key) = k
    · rw [valV_pos (p := (Sum.inr i, _)) e, if_pos (by rw [q]; exact decide_eq_true e)]
      exact .inr ⟨_, _, rfl, rfl, h⟩
    · rw [valV_neg (p := (Sum.inr i, _)) e, if_neg (by rw [q, decide_eq_false e]; decide)]
      exact lookK_K t k
theorem lookK_T : ∀ {kvs : List (List Key × V)} {ks : List (D × D)}, DatT X.K B G kvs ks → ∀ k : List Key, (valV kvs k = none ∧ lookK ks (embT k) = none) ∨ ∃ v d, valV kvs k = some v ∧ lookK ks (embT k) = some d ∧ Dat X.K B G v d
  | _, _, .nil, k => .inl ⟨rfl, rfl⟩
  | _, _, .cons (k := i) h t, k => by
    rw [lookK_cons]
    have q := keqD_T i k
    by_cases e : i = k
    · rw [valV_pos (p := (i, _)) e, if_pos (by rw [q]; exact decide_eq_true e)]
      exact .inr ⟨_, _, rfl, rfl, h⟩
    · rw [valV_neg (p := (i, _)) e, if_neg (by rw [q, decide_eq_false e]; decide)]
      exact lookK_T t k
def AllB (X : Cx) (B : Bx) (G : Hp) (s : Shared) (A : Around) (ls ks : List (D × D)) : Prop := ∀ k v y, (k, v) ∈ ks → lookK ls k = some y → EqB X B G s A v y
theorem AllB.tail {A : Around} {ls ks : List (D × D)} {z : D × D} (h : AllB X B G s A ls (z :: ks)) : AllB X B G s A ls ks := fun k v y m e => h k v y (List.mem_cons_of_mem _ m) e
theorem hitsK {A : Around} {lvs : List (Key × V)} {ls : List (D × D)} {vb : List (Key × Value)} (hb : DatK X.K B G lvs ls) (rb : KV lvs vb) : ∀ {kvs : List (Key × V)} {ks : List (D × D)} {va : List (Key × Value)}, DatK X.K B G kvs ks → KV kvs va → AllB X B G s A ls ks → PySem.W.KeqHitsP X.prog X.w A s vb va (eqGk ls ks)
  | _, _, _, .nil, r, _ => by
    unfold KV at r
    cases r
    rw [eqGk]
    exact .nil
  | _, _, _, .consI (i := i) (v := v) (d := d) (ds := ds) h t, r, al => by
    unfold KV at r
    cases r with
    | cons h1 h2 =>
      rename_i q qs
      obtain ⟨qk, qv⟩ := q
      obtain ⟨e1, e2⟩ := h1
      cases (show (Sum.inl i : Key) = qk from e1)
      rw [eqGk]
      have rr := rb.val (.inl i)
      rcases lookK_K hb (.inl i) with ⟨n1, n2⟩ | ⟨y, dy, y1, y2, y3⟩
      · rw [show lookK ls (.int i) = none from n2]
        rw [n1] at rr
        exact .miss rr.none_of
      · rw [show lookK ls (.int i) = some dy from y2]
        rw [y1] at rr
        obtain ⟨u, hu, ru⟩ := rr.some_of
        exact .hit hu (al (.int i) d dy List.mem_cons_self y2 _ _ _ _ h y3 e2 ru) (hitsK hb rb t h2 al.tail)
  | _, _, _, .consS (x := i) (v := v) (d := d) (ds := ds) h t, r, al => by
    unfold KV at r
    cases r with
    | cons h1 h2 =>
      rename_i q qs
      obtain ⟨qk, qv⟩ := q
      obtain ⟨e1, e2⟩ := h1
      cases (show (Sum.inr i : Key) = qk from e1)
      rw [eqGk]
      have rr := rb.val (.inr i)
      rcases lookK_K hb (.inr i) with ⟨n1, n2⟩ | ⟨y, dy, y1, y2, y3⟩
      · rw [show lookK ls (.str i) = none from n2]
        rw [n1] at rr
        exact .miss rr.none_of
      · rw [show lookK ls (.str i) = some dy from y2]
        rw [y1] at rr
        obtain ⟨u, hu, ru⟩ := rr.some_of
        exact .hit hu (al (.str i) d dy List.mem_cons_self y2 _ _ _ _ h y3 e2 ru) (hitsK hb rb t h2 al.tail)
theorem atKey_some {xs : XT} {k : List Key} {p : Addr × Value} (h : atKey xs k = some p) : ∃ j : Nat, xs[j]? = some (k, p) := by
  unfold atKey at h
  cases hf : (xs.find? fun x => decide (x.1 = k)) with
  | none => rw [hf] at h; cases h
  | some z =>
    rw [hf] at h
    have hz := List.find?_some hf
    have hm := List.mem_of_find?_eq_some hf
    obtain ⟨j, hj⟩ := List.mem_iff_getElem?.mp hm
    refine ⟨j, ?_⟩
    rw [hj]
    have e1 : z.1 = k := of_decide_eq_true hz
    have e2 : z.2 = p := by simpa using h
    rw [← e1, ← e2]
theorem atKey_none {xs : XT} {k : List Key} (h : atKey xs k = none) : ∀ (j : Nat) (q : Addr × Value), xs[j]? ≠ some (k, q) := by
  intro j q hj
  unfold atKey at h
  cases hf : (xs.find? fun x => decide (x.1 = k)) with
  | none =>
    have := List.find?_eq_none.mp hf (k, q) (List.mem_of_getElem? hj)
    simp at this
  | some z => rw [hf] at h; cases h
theorem hitsT {A : Around} {lvs : List (List Key × V)} {ls : List (D × D)} {xb : XT} (hb : DatT X.K B G lvs ls) (rb : KT H lvs xb) : ∀ {kvs : List (List Key × V)} {ks : List (D × D)} {xa : XT}, DatT X.K B G kvs ks → KT H kvs xa → AllB X B G s A ls ks → HitsH X.prog X.w A s xb xa (eqGk ls ks)
  | _, _, _, .nil, r, _ => by
    cases r
    rw [eqGk]
    exact .nil
  | _, _, _, .cons (k := i) (v := v) (d := d) (ds := ds) h t, r, al => by
    cases r with
    | cons h1 h2 =>
      rename_i q qs
      obtain ⟨qk, qa, qv⟩ := q
      obtain ⟨e1, _, e2⟩ := h1
      cases (show i = qk from e1)
      rw [eqGk]
      have rr := KT.val rb i
      rcases lookK_T hb i with ⟨n1, n2⟩ | ⟨y, dy, y1, y2, y3⟩
      · rw [n2]
        rw [n1] at rr
        have := rr.none_of
        refine .miss (atKey_none ?_)
        cases hk : atKey xb i with
        | none => rfl
        | some z => rw [hk] at this; cases this
      · rw [y2]
        rw [y1] at rr
        obtain ⟨u, hu, ru⟩ := rr.some_of
        obtain ⟨p, hp, hp2⟩ : ∃ p, atKey xb i = some p ∧ p.2 = u := by
          cases hk : atKey xb i with
          | none => rw [hk] at hu; cases hu
          | some z => rw [hk] at hu; exact ⟨z, rfl, by simpa using hu⟩
        obtain ⟨j, hj⟩ := atKey_some hp
        obtain ⟨pa, pv⟩ := p
        cases hp2
        exact .hit hj (al (embT i) d dy List.mem_cons_self y2 _ _ _ _ h y3 e2 ru) (hitsT hb rb t h2 al.tail)
theorem dk1_T (k : List Key) : dk1 (embT k) = none := rfl
theorem DatT.keysT : ∀ {vs : List (List Key × V)} {xs : List (D × D)}, DatT X.K B G vs xs → (xs.all fun z => (dk1 z.1).isSome) = true → vs = [] ∧ xs = []
  | _, _, .nil, _ => ⟨rfl, rfl⟩
  | _, _, .cons _ _, h => by simp [dk1_T] at h
theorem DatK.keysK : ∀ {vs : List (Key × V)} {xs : List (D × D)}, DatK X.K B G vs xs → (xs.all fun z => (dkT z.1).isSome) = true → vs = [] ∧ xs = []
  | _, _, .nil, _ => ⟨rfl, rfl⟩
  | _, _, .consI _ _, h => by simp [dkT] at h
  | _, _, .consS _ _, h => by simp [dkT] at h
/-- an empty dict is one of any keys -/
theorem emptyK {P : Program} {w : World} {h : Heap} {a : Addr} (d : h.DictOfH (tupleKind (mixKind P w)) a []) : h.DictOf (mixKind P w) a [] := by
  obtain ⟨o, es, ep, h1, h2, h3, h4, _, _⟩ := d
  have e : es = #[] := Array.toList_eq_nil_iff.mp (by rw [h4]; rfl)
  subst e
  exact ⟨o, #[], ep, h1, h2, h3, (fun e he => by simp at he), .nil, List.nodup_nil⟩
theorem emptyT {P : Program} {w : World} {h : Heap} {a : Addr} (d : h.DictOf (mixKind P w) a []) : h.DictOfH (tupleKind (mixKind P w)) a [] := by
  obtain ⟨o, es, ep, h1, h2, h3, h4, h5, h6⟩ := d
  have e : es = #[] := by
    have := h5.length
    apply Array.eq_empty_of_size_eq_zero
    simpa using this
  subst e
  exact ⟨o, #[], ep, h1, h2, h3, rfl, (fun x hx => by simp at hx), List.nodup_nil⟩
/-- what a datum that is a dict tells of the heap, by its keys -/
theorem dic_K (I : Inv X pins σ H s) (e : Ex G H) {x : V} {ks : List (D × D)} (h : Dat X.K B G x (.dic ks)) (hk : (ks.all fun z => (dk1 z.1).isSome) = true) : ∃ a kvs va, x = .ref a ∧ DatK X.K B G kvs ks ∧ KV kvs va ∧ (a == sysModules) = false ∧ s.heap.DictOf (mixKind X.prog X.w) a va := by
  cases h with
  | dK g t =>
    obtain ⟨_, hd, vs, rel, dd⟩ := dk_rd I.hok (.inr ⟨_, e _ _ g⟩)
    exact ⟨_, _, vs, rfl, t, rel, hd, dd⟩
  | dT g t =>
    obtain ⟨e1, e2⟩ := DatT.keysT t hk
    subst e1 e2
    obtain ⟨_, hd, xs, rel, dd⟩ := dt_rd I.hok (.inr ⟨_, e _ _ g⟩)
    cases rel
    exact ⟨_, [], [], rfl, .nil, Paired.nil, hd, emptyK dd⟩
theorem dic_T (I : Inv X pins σ H s) (e : Ex G H) {x : V} {ks : List (D × D)} (h : Dat X.K B G x (.dic ks)) (hk : (ks.all fun z => (dkT z.1).isSome) = true) : ∃ a kvs xa, x = .ref a ∧ DatT X.K B G kvs ks ∧ KT H kvs xa ∧ (a == sysModules) = false ∧ s.heap.DictOfH (tupleKind (mixKind X.prog X.w)) a xa := by
  cases h with
  | dT g t =>
    obtain ⟨_, hd, xs, rel, dd⟩ := dt_rd I.hok (.inr ⟨_, e _ _ g⟩)
    exact ⟨_, _, xs, rfl, t, rel, hd, dd⟩
  | dK g t =>
    obtain ⟨e1, e2⟩ := DatK.keysK t hk
    subst e1 e2
    obtain ⟨_, hd, vs, rel, dd⟩ := dk_rd I.hok (.inr ⟨_, e _ _ g⟩)
    have : vs = [] := by unfold KV at rel; cases rel; rfl
    subst this
    exact ⟨_, [], [], rfl, .nil, .nil, hd, emptyT dd⟩
end
end DL
/-! Dl39: reading dicts with keys of any kind: d[k], k in d, d.get(k, z), len(d), the walk by keys -/
namespace DL
open PySem PySem.Spec PyProof.Rows L2 Evl
def inFit (ks : List (D × D)) (y : D) : Bool := ((dk1 y).isSome && ks.all fun z => (dk1 z.1).isSome) || ((dkT y).isSome && ks.all fun z => (dkT z.1).isSome)
def oInK (neg : Bool) : O2 := fun y x Q => match x with
  | .dic ks => inFit ks y = true ∧ Q (.bl (if neg then !(lookK ks y).isSome else (lookK ks y).isSome))
  | _ => False
def gtK (d y : D) (Q : D → Prop) : Prop := match d with
  | .dic ks => match lookK ks y with
    | some v => Q v
    | none => False
  | _ => False
def dDGetK (r ry : DE) : DE := fun δ Q => r δ fun d => ry δ fun y => gtK d y Q
def kg2D (d y z : D) (Q : D → Prop) : Prop := match d with
  | .dic ks => inFit ks y = true ∧ Q ((lookK ks y).getD z)
  | _ => False
def cLenD : FD := fun ds Q => match ds with
  | [.dic ks] => Q (.int ks.length)
  | _ => False
section
variable {X : Cx} {B : Bx} {pins : List (Addr × Obj)} {σ : L2.St} {H G : Hp} {s : Shared} {e o i : Expr} {r ry rx : DE} {pos : Pos}
theorem DatK.len {K : PySem.W.Frag} : ∀ {kvs : List (Key × V)} {ks : List (D × D)}, DatK K B G kvs ks → kvs.length = ks.length
  | _, _, .nil => rfl
  | _, _, .consI _ t => by rw [List.length_cons, List.length_cons, DatK.len t]
  | _, _, .consS _ t => by rw [List.length_cons, List.length_cons, DatK.len t]
theorem DatT.len {K : PySem.W.Frag} : ∀ {kvs : List (List Key × V)} {ks : List (D × D)}, DatT K B G kvs ks → kvs.length = ks.length
  | _, _, .nil => rfl
  | _, _, .cons _ t => by rw [List.length_cons, List.length_cons, DatT.len t]
theorem inFit_or {ks : List (D × D)} {y : D} (h : inFit ks y = true) : (∃ k, dk1 y = some k ∧ (ks.all fun z => (dk1 z.1).isSome) = true) ∨ ∃ k, dkT y = some k ∧ (ks.all fun z => (dkT z.1).isSome) = true := by
  unfold inFit at h
  rcases Bool.or_eq_true_iff.mp h with h | h
  · have h := Bool.and_eq_true_iff.mp h
    obtain ⟨k, e⟩ := Option.isSome_iff_exists.mp h.1
    exact .inl ⟨k, e, h.2⟩
  · have h := Bool.and_eq_true_iff.mp h
    obtain ⟨k, e⟩ := Option.isSome_iff_exists.mp h.1
    exact .inr ⟨k, e, h.2⟩
theorem valueAt_look {kvs : List (Key × V)} {ks : List (D × D)} {va : List (Key × Value)} (hd : DatK X.K B G kvs ks) (rel : KV kvs va) (k : Key) : (valueAt va k).isSome = (lookK ks (embK k)).isSome := by
  rw [← (rel.val k).isSome_eq]
  rcases lookK_K hd k with ⟨a, b⟩ | ⟨v, d, a, b, _⟩ <;> rw [a, b] <;> rfl
theorem atKey_look {kvs : List (List Key × V)} {ks : List (D × D)} {xa : XT} (hd : DatT X.K B G kvs ks) (rel : KT H kvs xa) (k : List Key) : (atKey xa k).isSome = (lookK ks (embT k)).isSome := by
  have q := (rel.val k).isSome_eq
  rw [Option.isSome_map] at q
  rw [← q]
  rcases lookK_T hd k with ⟨a, b⟩ | ⟨v, d, a, b, _⟩ <;> rw [a, b] <;> rfl
theorem op_inK (hu : X.A.units + 1 < cLine) : OpR X (compareOp .In) (rLift X.K B (oInK false)) := by
  intro pins s σ H x y v u P I rx ry h
  obtain ⟨G, dx, dy, Q, j, hx, hy, hq, k⟩ := h
  cases dy with
  | dic ks =>
    obtain ⟨hf, q⟩ := hq
    rcases inFit_or hf with ⟨kk, e1, e2⟩ | ⟨kk, e1, e2⟩
    · obtain ⟨a, kvs, va, rfl, hd, rel, hs, dd⟩ := dic_K I j.ex hy e2
      cases ry
      have ek := keyV hx e1
      subst ek
      refine wpAny_in_of (kV_is rx) hs dd.mapOf ?_
      refine ⟨.bl _, H, I.tok _, rfl, ?_⟩
      rw [valueAt_look hd rel kk, ← emb_dk1 e1]
      exact k _ _ G H q (Gr.refl j) (.bl _)
    · obtain ⟨a, kvs, va, rfl, hd, rel, hs, dd⟩ := dic_T I j.ex hy e2
      cases ry
      obtain ⟨b, rfl, hb⟩ := keyT hx e1
      cases rx
      refine wpAny_in_heap (tupleKind_room_in1 hu) (key_of I.hok (j.ex _ _ hb)) hs dd ?_
      refine ⟨.bl _, H, I.tok _, rfl, ?_⟩
      rw [atKey_look hd rel kk, ← emb_dkT e1]
      exact k _ _ G H q (Gr.refl j) (.bl _)
  | _ => exact hq.elim
theorem op_notInK (hu : X.A.units + 1 < cLine) : OpR X (compareOp .NotIn) (rLift X.K B (oInK true)) := by
  intro pins s σ H x y v u P I rx ry h
  obtain ⟨G, dx, dy, Q, j, hx, hy, hq, k⟩ := h
  cases dy with
  | dic ks =>
    obtain ⟨hf, q⟩ := hq
    rcases inFit_or hf with ⟨kk, e1, e2⟩ | ⟨kk, e1, e2⟩
    · obtain ⟨a, kvs, va, rfl, hd, rel, hs, dd⟩ := dic_K I j.ex hy e2
      cases ry
      have ek := keyV hx e1
      subst ek
      refine wpAny_notIn_of (kV_is rx) hs dd.mapOf ?_
      refine ⟨.bl _, H, I.tok _, rfl, ?_⟩
      rw [valueAt_look hd rel kk, ← emb_dk1 e1]
      exact k _ _ G H q (Gr.refl j) (.bl _)
    · obtain ⟨a, kvs, va, rfl, hd, rel, hs, dd⟩ := dic_T I j.ex hy e2
      cases ry
      obtain ⟨b, rfl, hb⟩ := keyT hx e1
      cases rx
      refine wpAny_notIn_heap (tupleKind_room_in1 hu) (key_of I.hok (j.ex _ _ hb)) hs dd ?_
      refine ⟨.bl _, H, I.tok _, rfl, ?_⟩
      rw [atKey_look hd rel kk, ← emb_dkT e1]
      exact k _ _ G H q (Gr.refl j) (.bl _)
  | _ => exact hq.elim
theorem look_keyK {ks : List (D × D)} {y w : D} (h : lookK ks y = some w) : (∃ k, dk1 y = some k) ∨ ∃ k, dkT y = some k := by
  unfold lookK at h
  obtain ⟨z, hz, _⟩ := Option.map_eq_some_iff.mp h
  have := List.find?_some hz
  unfold keqD at this
  cases h1 : dk1 y with
  | some k => exact .inl ⟨k, rfl⟩
  | none =>
    cases h2 : dkT y with
    | some k => exact .inr ⟨k, rfl⟩
    | none =>
      rw [h1, h2] at this
      split at this
      · rename_i e1 e2; cases e2
      · split at this
        · rename_i e1 e2; cases e2
        · cases this
theorem keq_KT (a : Key) (k : List Key) : keqD (embK a) (embT k) = false := by unfold keqD; rw [dk1_emb, dk1_T]; cases a <;> rfl
theorem dkT_K (a : Key) : dkT (embK a) = none := by cases a <;> rfl
theorem keq_TK (a : Key) (k : List Key) : keqD (embT k) (embK a) = false := by unfold keqD; rw [dk1_emb, dk1_T, dkT_K, dkT_emb]
theorem lookK_KT : ∀ {kvs : List (Key × V)} {ks : List (D × D)}, DatK X.K B G kvs ks → ∀ k : List Key, lookK ks (embT k) = none
  | _, _, .nil, k => rfl
  | _, _, .consI (i := i) h t, k => by
    rw [lookK_cons, if_neg (by rw [show D.int i = embK (.inl i) from rfl, keq_KT]; decide)]
    exact lookK_KT t k
  | _, _, .consS (x := i) h t, k => by
    rw [lookK_cons, if_neg (by rw [show D.str i = embK (.inr i) from rfl, keq_KT]; decide)]
    exact lookK_KT t k
theorem lookK_TK : ∀ {kvs : List (List Key × V)} {ks : List (D × D)}, DatT X.K B G kvs ks → ∀ k : Key, lookK ks (embK k) = none
  | _, _, .nil, k => rfl
  | _, _, .cons (k := i) h t, k => by
    rw [lookK_cons, if_neg (by rw [keq_TK]; decide)]
    exact lookK_TK t k
theorem pd_dgetK (hu : X.A.units + 1 < cLine) (ho : PD X B o r) (hi : PD X B i ry) (hs : NoSl i) : PD X B (.Subscript o i pos) (dDGetK r ry) := pe_mono (pe_dget hu ho hi hs) fun σ H P q => by
  obtain ⟨H0, G, δ, Q, j, st, hr, k⟩ := q
  refine ⟨H0, G, δ, _, j, st, hr, fun d v G2 H2 q2 g2 d2 => ?_⟩
  refine ⟨H0, G2, δ, _, g2.j, st.gr g2, q2, fun y u G3 H3 q3 g3 d3 => ?_⟩
  have d4 := d2.mono g3.ex
  have fin : ∀ w x, Q w → Dat X.K B G3 x w → P x H3 := fun w x qw dw => k w x G3 H3 qw (g2.trans g3) dw
  cases d4 with
  | @dK a od kvs ds h1 h2 =>
    unfold gtK at q3
    dsimp only at q3
    cases hl : lookK ds y with
    | none => rw [hl] at q3; exact q3.elim
    | some w =>
      rcases look_keyK hl with ⟨kk, e1⟩ | ⟨kk, e1⟩
      · have := emb_dk1 e1
        subst this
        rcases lookK_K (X := X) h2 kk with ⟨_, b⟩ | ⟨v', d', a', b', c'⟩
        · rw [hl] at b; cases b
        · rw [hl] at b'
          cases b'
          have q5 : Q w := by rw [hl] at q3; exact q3
          exact ⟨a, v', rfl, .inl ⟨kvs, kk, .inr ⟨od, g3.j.ex _ _ h1⟩, keyV d3 e1, a'.symm⟩, fin _ _ q5 c'⟩
      · have := emb_dkT e1
        subst this
        rw [lookK_KT (X := X) h2] at hl
        cases hl
  | @dT a od kvs ds h1 h2 =>
    unfold gtK at q3
    dsimp only at q3
    cases hl : lookK ds y with
    | none => rw [hl] at q3; exact q3.elim
    | some w =>
      rcases look_keyK hl with ⟨kk, e1⟩ | ⟨kk, e1⟩
      · have := emb_dk1 e1
        subst this
        rw [lookK_TK (X := X) h2] at hl
        cases hl
      · have := emb_dkT e1
        subst this
        rcases lookK_T (X := X) h2 kk with ⟨_, b⟩ | ⟨v', d', a', b', c'⟩
        · rw [hl] at b; cases b
        · rw [hl] at b'
          cases b'
          obtain ⟨b, eu, eb⟩ := keyT d3 e1
          have q5 : Q w := by rw [hl] at q3; exact q3
          exact ⟨a, v', rfl, .inr ⟨kvs, kk, b, .inr ⟨od, g3.j.ex _ _ h1⟩, eu, g3.j.ex _ _ eb, a'.symm⟩, fin _ _ q5 c'⟩
  | _ => exact q3.elim
end
section
variable {X : Cx} {B : Bx}
theorem call_lenDD : CallR X (.builtin "len") (cLift X.K B cLenD) := by
  intro pins s σ H vs us P I rv q
  obtain ⟨G, ds, Q, j, hd, hq, k⟩ := q
  cases hd with
  | nil => exact hq.elim
  | cons h1 h2 =>
    cases h2 with
    | cons _ _ => cases h1 <;> exact hq.elim
    | nil =>
      cases rv with
      | cons r1 r2 =>
        cases r2
        cases h1 with
        | @dK a od kvs ks h3 h4 =>
          cases r1
          have hq : Q (.int ks.length) := hq
          have el := h4.len
          refine d_len I (.inr ⟨od, j.ex _ _ h3⟩) fun t s' I' => ⟨.int kvs.length, H, I', ⟨t, rfl⟩, ?_⟩
          rw [el]
          exact k _ _ G H hq (Gr.refl j) (.int _)
        | @dT a od kvs ks h3 h4 =>
          cases r1
          have hq : Q (.int ks.length) := hq
          obtain ⟨z, hs, xa, rel, dd⟩ := dt_rd I.hok (.inr ⟨od, j.ex _ _ h3⟩)
          have el : xa.length = ks.length := by rw [← Paired.length rel, h4.len]
          refine call_len_dictH hs dd (by rw [el, ← h4.len]; rw [sizeLine_eq] at z; omega) ?_
          rw [el]
          exact ⟨.int ((ks.length : Nat) : Int), H, I.tok _, ⟨_, rfl⟩, k _ _ G H hq (Gr.refl j) (.int _)⟩
        | _ => exact hq.elim
end
/-! the walk by keys -/
def keysD (d : D) (Q : List D → Prop) : Prop := match d with
  | .dic ks => Q (ks.map (·.1))
  | _ => False
def iKeysD (r : DE) : DA := fun δ Q => r δ fun d => keysD d Q
section
variable {K : PySem.W.Frag} {B : Bx} {G : Hp} {d : Addr} {o : Obj}
theorem DatK.at : ∀ {kvs : List (Key × V)} {ks : List (D × D)}, DatK K B G kvs ks → ∀ {i : Nat} {k : Key} {v : V}, kvs[i]? = some (k, v) → ∃ x, ks[i]? = some (embK k, x) ∧ Dat K B G v x
  | _, _, .nil, _, _, _, h => nomatch h
  | _, _, .consI h1 _, 0, _, _, h => by cases h; exact ⟨_, rfl, h1⟩
  | _, _, .consS h1 _, 0, _, _, h => by cases h; exact ⟨_, rfl, h1⟩
  | _, _, .consI _ t, i + 1, _, _, h => DatK.at t (i := i) h
  | _, _, .consS _ t, i + 1, _, _, h => DatK.at t (i := i) h
theorem DatT.at : ∀ {kvs : List (List Key × V)} {ks : List (D × D)}, DatT K B G kvs ks → ∀ {i : Nat} {k : List Key} {v : V}, kvs[i]? = some (k, v) → ∃ x, ks[i]? = some (embT k, x) ∧ Dat K B G v x
  | _, _, .nil, _, _, _, h => nomatch h
  | _, _, .cons h1 _, 0, _, _, h => by cases h; exact ⟨_, rfl, h1⟩
  | _, _, .cons _ t, i + 1, _, _, h => DatT.at t (i := i) h
theorem dat_kV (k : Key) : Dat K B G (kV k) (embK k) := by cases k; exact .int _; exact .str _
theorem dats_kV : ∀ k : List Key, Dats K B G (k.map kV) (k.map embK)
  | [] => .nil
  | k :: ks => .cons (dat_kV k) (dats_kV ks)
/-- a tuple of numbers and texts that stands there is, or becomes, known -/
theorem Gr.tupK {H : Hp} {q : Addr} {k : List Key} (j : Jn K B G H) (h : H q = some (.tup (k.map kV))) : ∃ G2, Gr K B G H G2 H ∧ Dat K B G2 (.ref q) (embT k) := by
  cases g : G q with
  | none => exact ⟨_, Gr.learn j h g, .tup upd_same (dats_kV k)⟩
  | some o =>
    have := j.ex _ _ g
    rw [h] at this
    cases this
    exact ⟨G, Gr.refl j, .tup g (dats_kV k)⟩
theorem itd_keysK {kvs : List (Key × V)} {ks : List (D × D)} (h : G d = some (.frz o (.dK kvs))) (t : DatK K B G kvs ks) : ItD K B (Itk d o kvs) G (ks.map (·.1)) where
  go := fun i G1 H e j hi => ⟨j.ex _ _ (e _ _ h), by rw [t.len]; simpa using hi⟩
  yld := fun i G1 H x H' y e j yl hi => by
    obtain ⟨rfl, k, v, h1, rfl⟩ := yl
    obtain ⟨z, h2, _⟩ := t.at h1
    rw [List.getElem?_map, h2] at hi
    cases hi
    exact ⟨G1, Gr.refl j, dat_kV k⟩
  stop := fun i G1 H e j hi => ⟨j.ex _ _ (e _ _ h), by rw [t.len]; simpa using hi⟩
theorem itd_keysT {kvs : List (List Key × V)} {ks : List (D × D)} (h : G d = some (.frz o (.dT kvs))) (t : DatT K B G kvs ks) : ItD K B (Itkt d o kvs) G (ks.map (·.1)) where
  go := fun i G1 H e j hi => ⟨j.ex _ _ (e _ _ h), by rw [t.len]; simpa using hi⟩
  yld := fun i G1 H x H' y e j yl hi => by
    obtain ⟨rfl, k, v, q, h1, rfl, hq⟩ := yl
    obtain ⟨z, h2, _⟩ := t.at h1
    rw [List.getElem?_map, h2] at hi
    cases hi
    exact Gr.tupK j hq
  stop := fun i G1 H e j hi => ⟨j.ex _ _ (e _ _ h), by rw [t.len]; simpa using hi⟩
end
section
variable {X : Cx} {B : Bx} {e : Expr} {r : DE}
theorem pid_keys {tg : Expr} (he : PD X B e r) : PID X B tg e (iKeysD r) :=
  ⟨fun pins s σ H R I h => (pi_keys he).run pins s σ H R I (by
    obtain ⟨H0, G, δ, Q, j, st, hr, k⟩ := h
    refine ⟨H0, G, δ, _, j, st, hr, fun d v G2 H2 q2 g2 h2 => ?_⟩
    cases h2 with
    | dK h3 h4 => exact ⟨_, _, rfl, .inl ⟨_, g2.j.ex _ _ h3, k _ _ G2 H2 q2 g2 (itd_keysK h3 h4)⟩⟩
    | dT h3 h4 => exact ⟨_, _, rfl, .inr ⟨_, g2.j.ex _ _ h3, k _ _ G2 H2 q2 g2 (itd_keysT h3 h4)⟩⟩
    | _ => exact q2.elim)⟩
variable {δ : DS} {Q : D → Prop} {QL : List D → Prop} {ry : DE} {ks : List (D × D)} {y : D}
theorem z_dgetK : dDGetK r ry δ Q = r δ fun d => ry δ fun y => gtK d y Q := propext Iff.rfl
theorem z_inKD : oInK false y (.dic ks) Q = (inFit ks y = true ∧ Q (.bl (lookK ks y).isSome)) := propext Iff.rfl
theorem z_ninKD : oInK true y (.dic ks) Q = (inFit ks y = true ∧ Q (.bl (!(lookK ks y).isSome))) := propext Iff.rfl
theorem z_iKeys : iKeysD r δ QL = r δ fun d => keysD d QL := propext Iff.rfl
theorem z_keysD : keysD (.dic ks) QL = QL (ks.map (·.1)) := propext Iff.rfl
theorem z_lenD : cLenD [.dic ks] Q = Q (.int ks.length) := propext Iff.rfl
theorem z_gtK {w : D} (h : lookK ks y = some w) : gtK (.dic ks) y Q = Q w := by
  show (match lookK ks y with | some v => Q v | none => False) = _
  rw [h]
end
end DL
/-! Dl40: sorted(x): a list of data that are alike, or a dict's keys -/
namespace DL
open PySem PySem.Spec PyProof.Rows L2 Evl PySem.W
def dleD : D → D → Bool := dataLe false D.py
def sortD (xs : List D) : List D := xs.mergeSort dleD
structure SrtOk (xs : List D) : Prop where
  pl : ∀ d ∈ xs, plain d = true
  al : AllAlike (xs.map D.py)
  so : Sortable (xs.map D.py)
section
variable {prog : Program} {w : World} {A : Around} {E : Value → Shared → Prop} {s : Shared} {vs : List Value} {bs : List D} {R : Value → D → Prop}
theorem sorted_col {x : Value} {Q : Value → Shared → Prop} (hc : ∀ P : List Value → Shared → Prop, (∀ h' tk, (∀ b o, s.heap.get? b = some o → h'.get? b = some o) → P vs { s with heap := h', toks := tk }) → wpAny (model prog w) A.in1 (collect x) P E s)
    (e : EachIs R vs bs) (er : EachIs (fun v b => ∃ as, Reads s.heap v b.py as) vs bs) (hal : AllAlike (bs.map D.py)) (hk : Sortable (bs.map D.py)) (hL : bs.length ≤ sizeLine)
    (hu : ∀ b, b ∈ bs → A.units + 2 + b.py.depth < cLine) (h : ∀ (out : List Value) (h1 h' : Heap) (tk : Nat) (p : Addr) (n : Nat), out.length = bs.length → EachIs R out (sortD bs) → (∀ b o, s.heap.get? b = some o → h1.get? b = some o) → (∀ b o, h1.get? b = some o → h'.get? b = some o) → h1.objs.size ≤ p → h'.get? p = some (seqObj "list" (List.toArray out) n) → Q (.ref p) { s with heap := h', toks := tk }) :
    wpAny (model prog w) A (call (.builtin "sorted") [x]) Q E s := by
  refine call_function_entry_kw kind_sorted plain_sorted entry_sorted (args_sorted1 _) ?_
  unfold Builtin.«sorted»
  refine wpAny_bind (m := checkCount "sorted" 1 1 _) (wpAny_pure ?_)
  refine wpAny_bind (hc _ fun h1 tk hk1 => ?_)
  have hL' : vs.length ≤ sizeLine := by rw [e.length]; exact hL
  refine wpAny_bind (wpAny_newList ?_ hL')
  have ho : (h1.push (seqObj "list" vs.toArray 0)).get? h1.objs.size = some (seqObj "list" vs.toArray 0) := Heap.get?_push_size _ rfl
  show wpAny _ _ _ _ _ { s with heap := h1.push (seqObj "list" vs.toArray 0), toks := tk }
  have k2 : ∀ b o, s.heap.get? b = some o → b ≠ h1.objs.size ∧ (h1.push (seqObj "list" vs.toArray 0)).get? b = some o := fun b o q =>
    ⟨Nat.ne_of_lt (Heap.lt_size (hk1 b o q)), Heap.get?_push_of_some _ (hk1 b o q)⟩
  have er' : EachIs (fun v b => ∃ as, Reads (sortingHeap (h1.push (seqObj "list" vs.toArray 0)) h1.objs.size vs) v (D.py b) as) vs bs := er.mono fun _ _ ⟨as, r⟩ => ⟨as, PyProof.Rows.Reads.keeps (fun b o q => sortingHeap_old (k2 b o q).1 (k2 b o q).2) r⟩
  refine wpAny_bind (wpAny_holding (wpAny_call_entry_kw slot_list_sort ⟨_, ho, rfl⟩ entry_list_sort ?body (args_list_sort _)))
  case body =>
    refine list_sort_vals (s := { s with heap := h1.push (seqObj "list" vs.toArray 0), toks := tk }) ho (SortsAt.data (s := { s with heap := sortingHeap (h1.push (seqObj "list" vs.toArray 0)) h1.objs.size vs, toks := tk }) (each_map (R := fun v d => ∃ as, Reads (sortingHeap (h1.push (seqObj "list" vs.toArray 0)) h1.objs.size vs) v d as) D.py er') hal hk (bound_map hu)) hL' ?_
    refine ⟨_, rfl, wpAny_pure ⟨_, rfl, ?_⟩⟩
    obtain ⟨n, hn⟩ := sortedHeap_at (vs := vs) (out := (sortVals (dataKind (sortingHeap (h1.push (seqObj "list" vs.toArray 0)) h1.objs.size vs) (bs.map D.py)) false vs vs).toArray) ho
    refine h _ h1 _ _ _ n ?_ (sortVals_data false e er' hal) hk1 (fun b o q => ?_) (Nat.le_refl _) hn
    · rw [sortVals_length false rfl]; exact e.length
    · rw [sortedHeap_old (Nat.ne_of_lt (Heap.lt_size q)) (by rw [size_push']; exact Nat.lt_succ_of_lt (Heap.lt_size q))]
      exact Heap.get?_push_of_some _ q
end
section
variable {K : PySem.W.Frag} {B : Bx} {G H : Hp}
def srcD (d : D) : Option (List D) := match d with
  | .lst xs => some xs
  | .dic ks => some (ks.map (·.1))
  | _ => none
/-- tuples of numbers and texts that stand there become known -/
theorem Gr.tupKs (j : Jn K B G H) : ∀ {qs : List Addr} {kk : List (List Key)}, qs.length = kk.length → (∀ (i : Nat) (q : Addr) (k : List Key), qs[i]? = some q → kk[i]? = some k → H q = some (.tup (k.map kV))) → ∃ G2, Gr K B G H G2 H ∧ Dats K B G2 (qs.map V.ref) (kk.map embT)
  | [], [], _, _ => ⟨G, Gr.refl j, .nil⟩
  | q :: qs, k :: kk, hl, h => by
    obtain ⟨G2, g2, d2⟩ := Gr.tupKs j (qs := qs) (kk := kk) (by simpa using hl) fun i q' k' h1 h2 => h (i + 1) q' k' h1 h2
    obtain ⟨G3, g3, d3⟩ := Gr.tupK g2.j (h 0 q k rfl rfl)
    exact ⟨G3, g2.trans g3, .cons d3 (d2.mono g3.ex)⟩
  | [], _ :: _, hl, _ => by simp at hl
  | _ :: _, [], hl, _ => by simp at hl
theorem vals_of_get : ∀ {xs : List V} {vs : List Value}, xs.length = vs.length → (∀ (i : Nat) (a : V) (b : Value), xs[i]? = some a → vs[i]? = some b → RelV a b) → Vals xs vs
  | [], [], _, _ => .nil
  | x :: xs, v :: vs, hl, h => .cons (h 0 x v rfl rfl) (vals_of_get (by simpa using hl) fun i a b h1 h2 => h (i + 1) a b h1 h2)
  | [], _ :: _, hl, _ => by simp at hl
  | _ :: _, [], hl, _ => by simp at hl
theorem vals_refs : ∀ qs : List Addr, Vals (qs.map V.ref) (qs.map Value.ref)
  | [] => .nil
  | q :: qs => .cons rfl (vals_refs qs)
theorem refs_list : ∀ vs : List Value, (∀ v ∈ vs, ∃ q, v = Value.ref q) → ∃ qs : List Addr, vs = qs.map Value.ref
  | [], _ => ⟨[], rfl⟩
  | v :: vs, h => by
    obtain ⟨q, rfl⟩ := h v List.mem_cons_self
    obtain ⟨qs, rfl⟩ := refs_list vs fun v hv => h v (List.mem_cons_of_mem _ hv)
    exact ⟨q :: qs, rfl⟩
theorem datK_keys : ∀ {kvs : List (Key × V)} {ks : List (D × D)}, DatK K B G kvs ks → Dats K B G (kvs.map fun p => kV p.1) (ks.map (·.1))
  | _, _, .nil => .nil
  | _, _, .consI _ t => .cons (.int _) (datK_keys t)
  | _, _, .consS _ t => .cons (.str _) (datK_keys t)
theorem datT_keys : ∀ {kvs : List (List Key × V)} {ks : List (D × D)}, DatT K B G kvs ks → (kvs.map (·.1)).map embT = ks.map (·.1)
  | _, _, .nil => rfl
  | _, _, .cons _ t => by rw [List.map_cons, List.map_cons, List.map_cons, datT_keys t]
theorem each_dats {xs : List V} {vs : List Value} {ds : List D} (rv : Vals xs vs) (hd : Dats K B G xs ds) : EachIs (fun v d => ∃ x, RelV x v ∧ Dat K B G x d) vs ds := by
  induction rv generalizing ds with
  | nil => cases hd; exact .nil
  | cons r _ ih =>
    cases hd with
    | cons h t => exact .cons ⟨_, r, h⟩ (ih t)
theorem dats_each {vs : List Value} {ds : List D} (e : EachIs (fun v d => ∃ x, RelV x v ∧ Dat K B G x d) vs ds) : ∃ xs, Vals xs vs ∧ Dats K B G xs ds := by
  induction e with
  | nil => exact ⟨[], .nil, .nil⟩
  | cons h _ ih =>
    obtain ⟨x, r, d⟩ := h
    obtain ⟨xs, a, b⟩ := ih
    exact ⟨x :: xs, .cons r a, .cons d b⟩
end
section
variable {X : Cx} {B : Bx} {pins : List (Addr × Obj)} {σ : L2.St} {H G : Hp} {s : Shared}
theorem sorted_V {x : Value} {vs : List Value} {xs : List V} {ds : List D} {P : VK} (hu : X.A.units + 70 < cLine) (I : Inv X pins σ H s) (hc : ∀ (P : List Value → Shared → Prop) (E : Value → Shared → Prop), (∀ h' tk, (∀ b o, s.heap.get? b = some o → h'.get? b = some o) → P vs { s with heap := h', toks := tk }) → wpAny (model X.prog X.w) X.A.in1 (collect x) P E s)
    (rv : Vals xs vs) (jex : Ex G H) (hd : Dats X.K B G xs ds) (ok : SrtOk ds) (hl : ds.length ≤ sizeLine) (k : ∀ ys p, Dats X.K B G ys (sortD ds) → H p = none → P (.ref p) (upd H p (.lst ys))) :
    wpAny (model X.prog X.w) X.A (call (.builtin "sorted") [x]) (EP X pins σ P) X.xe s := by
  have e := each_dats rv hd
  have er : EachIs (fun v (b : D) => ∃ as, Reads s.heap v b.py as) vs ds := (each_mem e).mono fun v d ⟨⟨y, r, dd⟩, m⟩ => Dp.reads I _ _ _ (dat_dp jex dd (Bool.and_eq_true_iff.mp (ok.pl d m)).1) r
  refine sorted_col (fun P h => hc P _ h) e er ok.al ok.so hl (fun b m => ?_) fun out h1 h' tk p n hlen eo kp1 kp hp hn => ?_
  · have h1 := Bool.and_eq_true_iff.mp (ok.pl b m)
    have := py_dep b h1.1
    have h3 : b.dep ≤ 64 := of_decide_eq_true h1.2
    omega
  · obtain ⟨ys, r2, d2⟩ := dats_each eo
    have hz : ys.length ≤ sizeLine := by rw [r2.length, hlen]; exact hl
    exact ⟨.ref p, upd H p (.lst ys), (I.kept (t' := tk) kp1).laid (t' := tk) kp hp ⟨hz, out, n, r2, hn⟩, rfl, k ys p d2 ((I.kept (t' := tk) kp1).hok.fresh hp)⟩
def rSortG (K : PySem.W.Frag) (B : Bx) : List V → Hp → VK → Prop := fun vs H P => ∃ (G : Hp) (d : D) (v : V) (ds : List D), vs = [v] ∧ Jn K B G H ∧ Dat K B G v d ∧ srcD d = some ds ∧ SrtOk ds ∧
  ∀ ys p G2, Gr K B G H G2 H → Dats K B G2 ys (sortD ds) → H p = none → P (.ref p) (upd H p (.lst ys))
theorem cr_sortG (hc : X.calm = true) (hu : X.A.units + 70 < cLine) : CallR X (.builtin "sorted") (rSortG X.K B) := by
  intro pins s σ H xs us Q I r h
  obtain ⟨G, d, v, ds, rfl, j, hd, hs, ok, k⟩ := h
  obtain ⟨u, rfl, ru⟩ := vals1 r
  cases hd with
  | @lst a xs ds h1 h2 =>
    cases hs
    cases ru
    obtain ⟨its, rv, hl, hz⟩ := I.list (sq_of (j.ex _ _ h1))
    have hz' : its.length ≤ sizeLine := by rw [← rv.length]; exact hz
    refine sorted_V hu I (fun P E h => ?_) rv j.ex h2 ok (by rw [← h2.len]; exact hz) fun ys p hy hp => k ys p G (Gr.refl j) hy hp
    refine collect_list hl.isList (h _ _ fun b o q => ?_) hz'
    have hlt : b < s.heap.objs.size := Heap.lt_size q
    rw [Heap.get?_update_ne _ _ _ _ (Nat.ne_of_lt hlt)]
    exact Heap.get?_push_of_some _ q
  | @dK a od kvs ks h1 h2 =>
    cases hs
    cases ru
    obtain ⟨hs, hgd, hx, es, ep, vs, hdt, hsz, kv, hm⟩ := I.frzK (j.ex _ _ h1)
    have hlen := h2.len
    obtain ⟨z, _, _⟩ := dk_rd I.hok (.inr ⟨od, j.ex _ _ h1⟩)
    have hl : (ks.map (·.1)).length ≤ sizeLine := by rw [List.length_map, ← hlen]; exact z
    have hvl : kvs.length = vs.length := Paired.length kv
    obtain ⟨es2, ep2, raw, hsz2, hk2⟩ := Heap.DictOf.raw hm.dictOf
    refine sorted_V (vs := es2.toList.map (·.key)) (xs := kvs.map fun p => kV p.1) (ds := ks.map (·.1)) hu I (fun P E h => ?_) ?_ j.ex ?_ ok hl fun ys p hy hp => k ys p G (Gr.refl j) hy hp
    · refine kdu_collect (A := X.A.in1) (KdlSrc.rawDict (es := es2) (ep := ep2) hs) (I.ok.hd hc) raw (by rw [hsz2, ← hvl]; exact z) fun h' tk acc hk hacc => ?_
      have : acc.toList = es2.toList.map (·.key) := by
        apply List.ext_getElem?
        intro i
        rw [List.getElem?_map, Array.getElem?_toList, Array.getElem?_toList]
        by_cases hi : i < es2.size
        · have h3 : i < acc.size := by rw [hacc.1]; exact hi
          rw [Array.getElem?_eq_getElem hi, Array.getElem?_eq_getElem h3]
          obtain ⟨_, e⟩ := hacc.2 i _ (Array.getElem?_eq_getElem h3)
          rw [e]
          rfl
        · rw [Array.getElem?_eq_none (by rw [hacc.1]; omega), Array.getElem?_eq_none (by omega)]
          rfl
      rw [this]
      exact h _ _ hk
    · refine vals_of_get (by rw [List.length_map, List.length_map, hvl, ← hsz2]; exact (Array.length_toList).symm) fun i a b ha hb => ?_
      rw [List.getElem?_map] at ha hb
      obtain ⟨⟨k1, v1⟩, e1, rfl⟩ := Option.map_eq_some_iff.mp ha
      obtain ⟨en, e2, rfl⟩ := Option.map_eq_some_iff.mp hb
      rw [Array.getElem?_toList] at e2
      obtain ⟨u, e3, _⟩ := kv_get kv e1
      obtain ⟨hi, e4⟩ := Array.getElem?_eq_some_iff.mp e2
      have := (hk2 i hi k1 u e3).1
      rw [e4] at this
      exact relV_key this
    · exact datK_keys h2
  | @dT a od kvs ks h1 h2 =>
    cases hs
    cases ru
    obtain ⟨hs, hgd, hx, es, ep, hdt, hsz, ent⟩ := I.frzT (j.ex _ _ h1)
    have hlen := h2.len
    obtain ⟨z, _, _⟩ := dt_rd I.hok (.inr ⟨od, j.ex _ _ h1⟩)
    have hl : (ks.map (·.1)).length ≤ sizeLine := by rw [List.length_map, ← hlen]; exact z
    have raw : s.heap.DictRaw a es ep := ⟨od, hgd, hx, hdt⟩
    obtain ⟨qs, hqs⟩ : ∃ qs : List Addr, es.toList.map (·.key) = qs.map Value.ref := by
      refine refs_list _ fun v hv => ?_
      obtain ⟨en, he, rfl⟩ := List.mem_map.mp hv
      obtain ⟨i, hi, e⟩ := List.getElem_of_mem he
      have hi' : i < kvs.length := by rw [← hsz]; simpa using hi
      obtain ⟨en', q, h3, h4, _⟩ := ent i _ _ (show kvs[i]? = some (kvs[i].1, kvs[i].2) from List.getElem?_eq_getElem hi')
      rw [← Array.getElem?_toList, List.getElem?_eq_getElem hi, e] at h3
      cases h3
      exact ⟨q, h4⟩
    have hql : qs.length = kvs.length := by
      have := congrArg List.length hqs
      rw [List.length_map, List.length_map, Array.length_toList] at this
      omega
    obtain ⟨G2, g2, d2⟩ := Gr.tupKs j (qs := qs) (kk := kvs.map (·.1)) (by rw [List.length_map]; exact hql) fun i q kk h3 h4 => by
      rw [List.getElem?_map] at h4
      obtain ⟨⟨k1, v1⟩, e1, rfl⟩ := Option.map_eq_some_iff.mp h4
      obtain ⟨en, q', h5, h6, h7⟩ := ent i _ _ e1
      have h8 : (es.toList.map (·.key))[i]? = some (.ref q) := by rw [hqs, List.getElem?_map, h3]; rfl
      rw [List.getElem?_map, Array.getElem?_toList, h5] at h8
      have h9 : en.key = .ref q := Option.some.inj h8
      rw [h6] at h9
      cases h9
      exact h7
    refine sorted_V (G := G2) (vs := qs.map Value.ref) (xs := qs.map V.ref) (ds := ks.map (·.1)) hu I (fun P E h => ?_) (vals_refs qs) g2.j.ex ?_ ok hl fun ys p hy hp => k ys p G2 g2 hy hp
    · refine kdu_collect (A := X.A.in1) (KdlSrc.rawDict (es := es) (ep := ep) hs) (I.ok.hd hc) raw (by rw [hsz]; exact z) fun h' tk acc hk hacc => ?_
      have : acc.toList = es.toList.map (·.key) := by
        apply List.ext_getElem?
        intro i
        rw [List.getElem?_map, Array.getElem?_toList, Array.getElem?_toList]
        by_cases hi : i < es.size
        · have h3 : i < acc.size := by rw [hacc.1]; exact hi
          rw [Array.getElem?_eq_getElem hi, Array.getElem?_eq_getElem h3]
          obtain ⟨_, e⟩ := hacc.2 i _ (Array.getElem?_eq_getElem h3)
          rw [e]
          rfl
        · rw [Array.getElem?_eq_none (by rw [hacc.1]; omega), Array.getElem?_eq_none (by omega)]
          rfl
      rw [this, hqs]
      exact h _ _ hk
    · rw [datT_keys h2] at d2
      exact d2
  | _ => cases hs
end
/-- sorted(x): x a list, or a dict -/
def srtL (ds : List D) (Q : List D → Prop) : Prop := match ds with
  | [.lst xs] => SrtOk xs ∧ Q (sortD xs)
  | [.dic ks] => SrtOk (ks.map (·.1)) ∧ Q (sortD (ks.map (·.1)))
  | _ => False
def fSorted (ra : DA) : DA := fun δ Q => ra δ fun ds => srtL ds Q
theorem srtL_src {ds : List D} {Q : List D → Prop} (h : srtL ds Q) : ∃ d xs, ds = [d] ∧ srcD d = some xs ∧ SrtOk xs ∧ Q (sortD xs) := by
  match ds, h with
  | [.lst xs], h => exact ⟨_, xs, rfl, rfl, h.1, h.2⟩
  | [.dic ks], h => exact ⟨_, _, rfl, rfl, h.1, h.2⟩
section
variable {X : Cx} {B : Bx} {e : Expr} {rA : DA} {pos : Pos}
theorem pf_sorted {p : Pos} (hc : X.calm = true) (hu : X.A.units + 70 < cLine) (hg : Gl X "sorted") (hm : X.mg "sorted" = none) (ha : PAD X B [e] rA) (hs : starEach [e] X.env = (false, eval e X.env) :: starEach [] X.env := by rfl) (hpl : (backTo pos (starEach [] X.env)).any (·.1) = false := by rfl) :
    PF X B (.Call (.Name "sorted" p) [e] [] pos) (fSorted rA) :=
  pe_mono (pe_callB (cr_sortG (B := B) hc hu) hg hm (by decide +kernel) ha (by decide) (by decide) hs hpl) fun σ H P q => by
  obtain ⟨H0, G, δ, Q, j, st, hr, k⟩ := q
  refine ⟨H0, G, δ, _, j, st, hr, fun ds vs G2 H2 q2 g2 h2 => ?_⟩
  obtain ⟨d, xs, rfl, hs, ok, q⟩ := srtL_src q2
  cases h2 with
  | cons h3 h4 =>
    cases h4
    refine ⟨G2, d, _, xs, rfl, g2.j, h3, hs, ok, fun ys p G3 g3 hy hp => ?_⟩
    exact pf_new k (g2.trans g3) hp hy q
end
theorem room_u70 {k : Nat} {A : Around} (h : Room k A) : A.units + 70 < cLine := by have := h.un; omega
section
variable {δ : DS} {rA : DA} {QL : List D → Prop} {xs : List D} {ks : List (D × D)}
theorem z_sorted : fSorted rA δ QL = rA δ fun ds => srtL ds QL := propext Iff.rfl
theorem z_srtL : srtL [.lst xs] QL = (SrtOk xs ∧ QL (sortD xs)) := propext Iff.rfl
theorem z_srtD : srtL [.dic ks] QL = (SrtOk (ks.map (·.1)) ∧ QL (sortD (ks.map (·.1)))) := propext Iff.rfl
end
/-! what is sorted, in words of one's own -/
theorem sort_map {α : Type} (f : α → D) (le : α → α → Bool) {l : List α} (h : ∀ a ∈ l, ∀ b ∈ l, dleD (f a) (f b) = le a b) : sortD (l.map f) = (l.mergeSort le).map f :=
  (sort_maps (r := le) (s := dleD) f fun a ha b hb => (h a ha b hb).symm).symm
theorem sort_id {α : Type} (f : α → D) (le : α → α → Bool) {l : List α} (h : ∀ a ∈ l, ∀ b ∈ l, dleD (f a) (f b) = le a b) (hs : l.Pairwise fun a b => le a b = true) : sortD (l.map f) = l.map f := by
  rw [sort_map f le h, List.mergeSort_of_pairwise hs]
theorem dleD_eq (a b : D) : dleD a b = !dataLt b.py a.py := rfl
theorem dle_int (a b : Int) : dleD (.int a) (.int b) = decide (a ≤ b) := by
  rw [dleD_eq, D.py, D.py, dataLt_int]
  by_cases h : a ≤ b
  · rw [decide_eq_false (by omega), decide_eq_true h]; rfl
  · rw [decide_eq_true (by omega), decide_eq_false h]; rfl
/-- tuples: by the first item, then by the rest -/
theorem lt_tup_cons {x y : PyData} {xs ys : List PyData} (h : alike x y = true) : dataLt (.tuple (x :: xs)) (.tuple (y :: ys)) = if PyData.eqv x y = true then dataLt (.tuple xs) (.tuple ys) else dataLt x y := by
  rw [dataLt_tuple, dataLt_tuple]
  cases e : PyData.eqv x y with
  | true => rw [if_pos rfl]; exact dataLt_all_yes h e
  | false => rw [if_neg (by decide)]; exact dataLt_all_no h e
theorem lt_lst_cons {x y : PyData} {xs ys : List PyData} (h : alike x y = true) : dataLt (.list (x :: xs)) (.list (y :: ys)) = if PyData.eqv x y = true then dataLt (.list xs) (.list ys) else dataLt x y := by
  rw [dataLt_list, dataLt_list]
  cases e : PyData.eqv x y with
  | true => rw [if_pos rfl]; exact dataLt_all_yes h e
  | false => rw [if_neg (by decide)]; exact dataLt_all_no h e
theorem lt_tup_nil : dataLt (.tuple []) (.tuple []) = false := by rw [dataLt_tuple]; rfl
end DL
/-! Dl41: == and repr of dicts whose values are plain -/
namespace DL
open PySem PySem.Spec PyProof.Rows L2 Evl PySem.W
def valsP (ks : List (D × D)) : Bool := ks.all fun z => plain z.2
def oEqD (neg : Bool) : O2 := fun x y Q => match x, y with
  | .dic ks, .dic ls => (valsP ks = true ∧ valsP ls = true ∧ kfit ks ls = true) ∧ Q (.bl (if neg then !eqG (.dic ks) (.dic ls) else eqG (.dic ks) (.dic ls)))
  | _, _ => False
section
variable {X : Cx} {B : Bx} {pins : List (Addr × Obj)} {σ : L2.St} {H G : Hp} {s : Shared}
theorem lookK_mem {ks : List (D × D)} {y v : D} (h : lookK ks y = some v) : ∃ k, (k, v) ∈ ks := by
  unfold lookK at h
  obtain ⟨z, hz, e⟩ := Option.map_eq_some_iff.mp h
  subst e
  exact ⟨z.1, List.mem_of_find?_eq_some hz⟩
theorem allB_plain (I : Inv X pins σ H s) (e : Ex G H) {A : Around} (hu : A.units + 64 < cLine) {ls ks : List (D × D)} (h1 : valsP ks = true) (h2 : valsP ls = true) : AllB X B G s A ls ks := fun k v y m l => by
  intro a b va vb ha hb ra rb
  obtain ⟨k', m'⟩ := lookK_mem l
  exact (eqB_plain I e hu (List.all_eq_true.mp h1 _ m) (List.all_eq_true.mp h2 _ m') ha hb ra rb).1
theorem kfit_or {ks ls : List (D × D)} (h : kfit ks ls = true) : ((ks.all fun z => (dk1 z.1).isSome) = true ∧ (ls.all fun z => (dk1 z.1).isSome) = true) ∨ ((ks.all fun z => (dkT z.1).isSome) = true ∧ (ls.all fun z => (dkT z.1).isSome) = true) := by
  unfold kfit at h
  rcases Bool.or_eq_true_iff.mp h with h | h
  · exact .inl (Bool.and_eq_true_iff.mp h)
  · exact .inr (Bool.and_eq_true_iff.mp h)
theorem op_eqDD (hu : X.A.units + 66 < cLine) : OpR X (compareOp .Eq) (rLift X.K B (oEqD false)) := by
  intro pins s σ H x y v u P I rx ry h
  obtain ⟨G, dx, dy, Q, j, hx, hy, hq, k⟩ := h
  cases dx with
  | dic ks =>
    cases dy with
    | dic ls =>
      obtain ⟨⟨p1, p2, kf⟩, q⟩ := hq
      have kk := k _ _ G H q (Gr.refl j) (.bl _)
      rcases kfit_or kf with ⟨f1, f2⟩ | ⟨f1, f2⟩
      · obtain ⟨a, kvs, va, rfl, d1, r1, s1, h1⟩ := dic_K I j.ex hx f1
        obtain ⟨b, lvs, vb, rfl, d2, r2, s2, h2⟩ := dic_K I j.ex hy f2
        cases rx
        cases ry
        refine rcP_dicts s1 s2 h1 h2 (by omega) (fun _ => hitsK d2 r2 d1 r1 (allB_plain I j.ex (show X.A.units + 1 + 64 < cLine by omega) p1 p2)) _ _ ?_
        refine ⟨.bl _, H, I, rfl, ?_⟩
        have e1 : va.length = ks.length := by rw [← Paired.length r1, d1.len]
        have e2 : vb.length = ls.length := by rw [← Paired.length r2, d2.len]
        rw [e1, e2]
        rw [eqG] at kk
        exact kk
      · obtain ⟨a, kvs, va, rfl, d1, r1, s1, h1⟩ := dic_T I j.ex hx f1
        obtain ⟨b, lvs, vb, rfl, d2, r2, s2, h2⟩ := dic_T I j.ex hy f2
        cases rx
        cases ry
        refine rcH_eq s1 s2 h1 h2 (by omega) (fun _ => hitsT d2 r2 d1 r1 (allB_plain I j.ex (show X.A.units + 1 + 64 < cLine by omega) p1 p2)) _ _ ?_
        refine ⟨.bl _, H, I, rfl, ?_⟩
        have e1 : va.length = ks.length := by rw [← Paired.length r1, d1.len]
        have e2 : vb.length = ls.length := by rw [← Paired.length r2, d2.len]
        rw [e1, e2]
        rw [eqG] at kk
        exact kk
    | _ => exact hq.elim
  | _ => exact hq.elim
end
/-! repr -/
mutual
def flat : D → Bool
  | .non => true
  | .bl _ => true
  | .int _ => true
  | .str _ => true
  | .tup xs => flatL xs
  | _ => false
def flatL : List D → Bool
  | [] => true
  | x :: xs => flat x && flatL xs
end
mutual
theorem reads_flat {h : Heap} : ∀ (d : D) (v : Value) (as : List Addr), flat d = true → Reads h v d.py as → as = []
  | .non, _, _, _, r => by rw [D.py] at r; cases r; rfl
  | .bl _, _, _, _, r => by rw [D.py] at r; cases r; rfl
  | .int _, _, _, _, r => by rw [D.py] at r; cases r; rfl
  | .str _, _, _, _, r => by rw [D.py] at r; cases r; rfl
  | .tup xs, _, _, f, r => by
    rw [D.py] at r
    cases r with
    | tuple _ _ _ h => exact readsAll_flat xs _ _ (by simpa [flat] using f) h
theorem readsAll_flat {h : Heap} : ∀ (ds : List D) (vs : List Value) (as : List Addr), flatL ds = true → ReadsAll h vs (pyL ds) as → as = []
  | [], _, _, _, r => by rw [pyL] at r; cases r; rfl
  | x :: xs, _, _, f, r => by
    rw [pyL] at r
    have f' : flat x = true ∧ flatL xs = true := by simpa [flatL] using f
    cases r with
    | cons h1 h2 => rw [reads_flat x _ _ f'.1 h1, readsAll_flat xs _ _ f'.2 h2]; rfl
end
def kpy (ks : List (D × D)) : PyData := .dict (ks.map fun z => (z.1.py, z.2.py))
def wtK (ks : List (D × D)) : Nat := (ks.map fun z => D.wt z.1 + D.wt z.2 + 4).sum
structure RepK (ks : List (D × D)) : Prop where
  vp : ∀ z ∈ ks, plain z.2 = true ∧ flat z.2 = true
  kp : ∀ z ∈ ks, plain z.1 = true ∧ flat z.1 = true
  wt : wtK ks ≤ 15000000
  kk : (ks.all fun z => (dk1 z.1).isSome) = true ∨ (ks.all fun z => (dkT z.1).isSome) = true
def cReprD : FD := fun ds Q => match ds with
  | [.dic ks] => RepK ks ∧ Q (.str (kpy ks).shown)
  | _ => False
theorem shownKv_len : ∀ {ks : List (D × D)}, (∀ z ∈ ks, plain z.2 = true ∧ flat z.2 = true) → (∀ z ∈ ks, plain z.1 = true ∧ flat z.1 = true) → ((PyData.shownKv (ks.map fun z => (z.1.py, z.2.py))).map fun t => t.length + 2).sum ≤ wtK ks
  | [], _, _ => by simp [PyData.shownKv, wtK]
  | z :: ks, h1, h2 => by
    have ih := shownKv_len (ks := ks) (fun z m => h1 z (List.mem_cons_of_mem _ m)) fun z m => h2 z (List.mem_cons_of_mem _ m)
    have a := py_len z.1 (Bool.and_eq_true_iff.mp (h2 z List.mem_cons_self).1).1
    have b := py_len z.2 (Bool.and_eq_true_iff.mp (h1 z List.mem_cons_self).1).1
    rw [List.map_cons, PyData.shownKv, List.map_cons, List.sum_cons, strLen_append, strLen_append]
    have e2 : ((": " : String) : Str).length = 2 := rfl
    unfold wtK at ih ⊢
    rw [List.map_cons, List.sum_cons]
    omega
theorem kpy_len {ks : List (D × D)} (h : RepK ks) : (kpy ks).shown.length ≤ sizeLine := by
  have a := shownKv_len h.vp h.kp
  have b := h.wt
  unfold kpy
  rw [PyData.shown]
  unfold dictText
  rw [strLen_append, strLen_append]
  have c := join_up (PyData.shownKv (ks.map fun z => (z.1.py, z.2.py)))
  have e1 : (("{" : String) : Str).length = 1 := rfl
  have e2 : (("}" : String) : Str).length = 1 := rfl
  rw [sizeLine_eq]
  omega
theorem kpy_show {ks : List (D × D)} (h1 : ∀ z ∈ ks, plain z.2 = true ∧ flat z.2 = true) (h2 : ∀ z ∈ ks, plain z.1 = true ∧ flat z.1 = true) : PyData.showableKv (ks.map fun z => (z.1.py, z.2.py)) = true := by
  induction ks with
  | nil => rfl
  | cons z ks ih =>
    rw [List.map_cons, PyData.showableKv, py_show z.1 (Bool.and_eq_true_iff.mp (h2 z List.mem_cons_self).1).1, py_show z.2 (Bool.and_eq_true_iff.mp (h1 z List.mem_cons_self).1).1,
      ih (fun z m => h1 z (List.mem_cons_of_mem _ m)) fun z m => h2 z (List.mem_cons_of_mem _ m)]
    rfl
theorem pyL_fine : ∀ {ds : List D}, (∀ d ∈ ds, D.fine d = true ∧ flat d = true) → fineL ds = true ∧ flatL ds = true
  | [], _ => ⟨rfl, rfl⟩
  | d :: ds, h => by
    have a := h d List.mem_cons_self
    have b := pyL_fine fun x m => h x (List.mem_cons_of_mem _ m)
    rw [fineL, flatL, a.1, a.2, b.1, b.2]
    exact ⟨rfl, rfl⟩
theorem py_depthAll : ∀ {ds : List D}, (∀ d ∈ ds, plain d = true) → PyData.depthAll (pyL ds) ≤ 64
  | [], _ => by rw [pyL]; exact Nat.zero_le _
  | d :: ds, h => by
    have h1 := Bool.and_eq_true_iff.mp (h d List.mem_cons_self)
    have h2 := py_dep d h1.1
    have h3 : d.dep ≤ 64 := of_decide_eq_true h1.2
    have h4 := py_depthAll fun x m => h x (List.mem_cons_of_mem _ m)
    rw [pyL, PyData.depthAll]
    omega
theorem plain_dep {d : D} (h : plain d = true) : d.py.depth ≤ 64 := by
  have h1 := Bool.and_eq_true_iff.mp h
  have h2 := py_dep d h1.1
  have h3 : d.dep ≤ 64 := of_decide_eq_true h1.2
  omega
theorem depthKv_le : ∀ {ks : List (D × D)}, (∀ z ∈ ks, plain z.2 = true ∧ flat z.2 = true) → (∀ z ∈ ks, plain z.1 = true ∧ flat z.1 = true) → PyData.depthKv (ks.map fun z => (z.1.py, z.2.py)) ≤ 64
  | [], _, _ => by rw [List.map_nil, PyData.depthKv]; omega
  | z :: ks, h1, h2 => by
    have ih := depthKv_le (ks := ks) (fun z m => h1 z (List.mem_cons_of_mem _ m)) fun z m => h2 z (List.mem_cons_of_mem _ m)
    have a := plain_dep (h1 z List.mem_cons_self).1
    have b := plain_dep (h2 z List.mem_cons_self).1
    rw [List.map_cons, PyData.depthKv]
    omega
section
variable {X : Cx} {B : Bx} {pins : List (Addr × Obj)} {σ : L2.St} {H G : Hp} {s : Shared}
theorem reads_dict (I : Inv X pins σ H s) (e : Ex G H) {a : Addr} {o : Obj} {es : Array DictEntry} {ep : Nat} {ks : List (D × D)} {kx vx : List V} (ho : s.heap.get? a = some o) (hx : o.ExactDict) (hd : o.data = .dict es ep)
    (rk : Vals kx (es.toList.map (·.key))) (rv : Vals vx (es.toList.map (·.val))) (dk : Dats X.K B G kx (ks.map (·.1))) (dv : Dats X.K B G vx (ks.map (·.2))) (h : RepK ks) : Reads s.heap (.ref a) (kpy ks) [a] := by
  have f1 := pyL_fine (ds := ks.map (·.1)) fun d m => by
    obtain ⟨z, hz, rfl⟩ := List.mem_map.mp m
    exact ⟨(Bool.and_eq_true_iff.mp (h.kp z hz).1).1, (h.kp z hz).2⟩
  have f2 := pyL_fine (ds := ks.map (·.2)) fun d m => by
    obtain ⟨z, hz, rfl⟩ := List.mem_map.mp m
    exact ⟨(Bool.and_eq_true_iff.mp (h.vp z hz).1).1, (h.vp z hz).2⟩
  obtain ⟨as, r1⟩ := Dp.readsAll I _ _ _ (dats_dp e dk f1.1) rk
  obtain ⟨bs, r2⟩ := Dp.readsAll I _ _ _ (dats_dp e dv f2.1) rv
  have e1 := readsAll_flat _ _ _ f1.2 r1
  have e2 := readsAll_flat _ _ _ f2.2 r2
  subst e1 e2
  have q1 : pyL (ks.map (·.1)) = (ks.map fun z => (z.1.py, z.2.py)).map (·.1) := by rw [pyL_map, List.map_map, List.map_map]; rfl
  have q2 : pyL (ks.map (·.2)) = (ks.map fun z => (z.1.py, z.2.py)).map (·.2) := by rw [pyL_map, List.map_map, List.map_map]; rfl
  rw [q1] at r1
  rw [q2] at r2
  exact .dict ho hx.1 hd r1 r2
theorem datK_vals {K : PySem.W.Frag} : ∀ {kvs : List (Key × V)} {ks : List (D × D)}, DatK K B G kvs ks → Dats K B G (kvs.map (·.2)) (ks.map (·.2))
  | _, _, .nil => .nil
  | _, _, .consI h t => .cons h (datK_vals t)
  | _, _, .consS h t => .cons h (datK_vals t)
theorem datT_vals {K : PySem.W.Frag} : ∀ {kvs : List (List Key × V)} {ks : List (D × D)}, DatT K B G kvs ks → Dats K B G (kvs.map (·.2)) (ks.map (·.2))
  | _, _, .nil => .nil
  | _, _, .cons h t => .cons h (datT_vals t)
theorem call_reprDD (hg : X.A.guards = some []) (hu : X.A.units + 70 < cLine) : CallR X (.builtin "repr") (cLift X.K B cReprD) := by
  intro pins s σ H vs us P I rv h
  obtain ⟨G, ds, Q, j, hd, hq, k⟩ := h
  cases hd with
  | nil => exact hq.elim
  | cons h1 h2 =>
    cases h2 with
    | cons _ _ => cases h1 <;> exact hq.elim
    | nil =>
      obtain ⟨u, rfl, ru⟩ := vals1 rv
      have fin : ∀ {a : Addr} {ks : List (D × D)}, RepK ks → Q (.str (kpy ks).shown) → (a == sysModules) = false → Reads s.heap (.ref a) (kpy ks) [a] → wpAny (model X.prog X.w) X.A (call (.builtin "repr") [.ref a]) (EP X pins σ P) X.xe s := fun {a ks} rk q hs r => by
        have dep : (kpy ks).depth ≤ 65 := by
          unfold kpy
          rw [PyData.depth]
          have := depthKv_le rk.vp rk.kp
          omega
        refine repr_of_reads' r (by unfold kpy; rw [PyData.showable]; exact kpy_show rk.vp rk.kp) (fun _ m => ?_) hg (by omega) (fun _ _ e => e) (fun h' u tk hk => ⟨.str _, H, I.kept hk, ⟨_, rfl⟩, k _ _ G H q (Gr.refl j) (.str _)⟩) (kpy_len rk)
        rw [List.mem_singleton] at m
        subst m
        simp at hs
      cases h1 with
      | @dK a od kvs ks h3 h4 =>
        cases ru
        obtain ⟨rk, q⟩ := (show RepK ks ∧ Q (.str (kpy ks).shown) from hq)
        obtain ⟨hs, hgd, hx, es, ep, vs, hdt, hsz, kv, hm⟩ := I.frzK (j.ex _ _ h3)
        have hvl : kvs.length = vs.length := Paired.length kv
        obtain ⟨es2, ep2, ⟨o2, ho2, hx2, hd2⟩, hsz2, hk2⟩ := Heap.DictOf.raw hm.dictOf
        have at_ : ∀ (i : Nat) (k1 : Key) (v1 : V) (en : DictEntry), kvs[i]? = some (k1, v1) → es2[i]? = some en → RelV (kV k1) en.key ∧ RelV v1 en.val := fun i k1 v1 en e1 e2 => by
          obtain ⟨u, e3, ru⟩ := kv_get kv e1
          obtain ⟨hi, e4⟩ := Array.getElem?_eq_some_iff.mp e2
          have := hk2 i hi k1 u e3
          rw [e4] at this
          exact ⟨relV_key this.1, by rw [this.2]; exact ru⟩
        refine fin rk q hs (reads_dict I j.ex (kx := kvs.map fun p => kV p.1) (vx := kvs.map (·.2)) ho2 hx2 hd2 ?_ ?_ (datK_keys h4) (datK_vals h4) rk)
        · refine vals_of_get (by rw [List.length_map, List.length_map, hvl, ← hsz2]; exact (Array.length_toList).symm) fun i a b ha hb => ?_
          rw [List.getElem?_map] at ha hb
          obtain ⟨⟨k1, v1⟩, e1, rfl⟩ := Option.map_eq_some_iff.mp ha
          obtain ⟨en, e2, rfl⟩ := Option.map_eq_some_iff.mp hb
          rw [Array.getElem?_toList] at e2
          exact (at_ i k1 v1 en e1 e2).1
        · refine vals_of_get (by rw [List.length_map, List.length_map, hvl, ← hsz2]; exact (Array.length_toList).symm) fun i a b ha hb => ?_
          rw [List.getElem?_map] at ha hb
          obtain ⟨⟨k1, v1⟩, e1, rfl⟩ := Option.map_eq_some_iff.mp ha
          obtain ⟨en, e2, rfl⟩ := Option.map_eq_some_iff.mp hb
          rw [Array.getElem?_toList] at e2
          exact (at_ i k1 v1 en e1 e2).2
      | @dT a od kvs ks h3 h4 =>
        cases ru
        obtain ⟨rk, q⟩ := (show RepK ks ∧ Q (.str (kpy ks).shown) from hq)
        obtain ⟨hgd, z, hs, xs, pr, o', es, ep, ho, hx, hdt, he, _⟩ := I.hok a _ (j.ex _ _ h3)
        rw [hgd] at ho
        cases ho
        have hxl : kvs.length = xs.length := Paired.length pr
        have hel : es.size = xs.length := size_of_entries he
        have hkeys : es.toList.map (·.key) = (xs.map fun x => x.2.1).map Value.ref := by rw [he, List.map_map, List.map_map]; rfl
        obtain ⟨G2, g2, d2⟩ := Gr.tupKs j (qs := xs.map fun x => x.2.1) (kk := kvs.map (·.1)) (by rw [List.length_map, List.length_map]; exact hxl.symm) fun i q kk e1 e2 => by
          rw [List.getElem?_map] at e1 e2
          obtain ⟨⟨k1, v1⟩, e3, rfl⟩ := Option.map_eq_some_iff.mp e2
          obtain ⟨b, hb, r1, r2, r3⟩ := paired_get pr e3
          rw [hb] at e1
          cases e1
          exact r2
        rw [datT_keys h4] at d2
        refine fin rk q hs (reads_dict I g2.j.ex (kx := (xs.map fun x => x.2.1).map V.ref) (vx := kvs.map (·.2)) hgd hx hdt ?_ ?_ d2 ((datT_vals h4).mono g2.ex) rk)
        · rw [hkeys]
          exact vals_refs _
        · refine vals_of_get (by rw [List.length_map, List.length_map, hxl, ← hel]; exact (Array.length_toList).symm) fun i a b ha hb => ?_
          rw [List.getElem?_map] at ha hb
          obtain ⟨⟨k1, v1⟩, e1, rfl⟩ := Option.map_eq_some_iff.mp ha
          obtain ⟨en, e2, rfl⟩ := Option.map_eq_some_iff.mp hb
          obtain ⟨b, hb2, r1, r2, r3⟩ := paired_get pr e1
          rw [he, List.getElem?_map, hb2] at e2
          cases e2
          exact r3
      | _ => exact hq.elim
section
variable {Q : D → Prop} {ks ls : List (D × D)}
theorem z_eqDD : oEqD false (.dic ks) (.dic ls) Q = ((valsP ks = true ∧ valsP ls = true ∧ kfit ks ls = true) ∧ Q (.bl (eqG (.dic ks) (.dic ls)))) := propext Iff.rfl
theorem z_reprD : cReprD [.dic ks] Q = (RepK ks ∧ Q (.str (kpy ks).shown)) := propext Iff.rfl
end
end
end DL
/-! Dl42: == and repr of whatever data; places within dicts; one's own dicts of one's own lists -/
namespace DL
open PySem PySem.Spec PyProof.Rows L2 Evl
def oEqA : O2 := fun x y Q => match x, y with
  | .dic ks, .dic ls => oEqD false (.dic ks) (.dic ls) Q
  | x, y => oEq x y Q
def cReprA : FD := fun ds Q => match ds with
  | [.dic ks] => cReprD [.dic ks] Q
  | ds => cRepr ds Q
section
variable {X : Cx} {B : Bx} {Q : D → Prop} {ks ls : List (D × D)} {xs : List D} {y : D}
theorem z_eqAd : oEqA (.dic ks) (.dic ls) Q = oEqD false (.dic ks) (.dic ls) Q := propext Iff.rfl
theorem z_eqAl : oEqA (.lst xs) y Q = oEq (.lst xs) y Q := propext Iff.rfl
theorem z_eqAt : oEqA (.tup xs) y Q = oEq (.tup xs) y Q := propext Iff.rfl
theorem z_eqAi {i : Int} : oEqA (.int i) y Q = oEq (.int i) y Q := propext Iff.rfl
theorem z_eqAs {i : Str} : oEqA (.str i) y Q = oEq (.str i) y Q := propext Iff.rfl
theorem z_eqAb {i : Bool} : oEqA (.bl i) y Q = oEq (.bl i) y Q := propext Iff.rfl
theorem z_eqAn : oEqA .non y Q = oEq .non y Q := propext Iff.rfl
theorem z_rpAd : cReprA [.dic ks] Q = cReprD [.dic ks] Q := propext Iff.rfl
theorem z_rpAl : cReprA [.lst xs] Q = cRepr [.lst xs] Q := propext Iff.rfl
theorem z_rpAt : cReprA [.tup xs] Q = cRepr [.tup xs] Q := propext Iff.rfl
theorem z_rpAi {i : Int} : cReprA [.int i] Q = cRepr [.int i] Q := propext Iff.rfl
theorem z_rpAs {i : Str} : cReprA [.str i] Q = cRepr [.str i] Q := propext Iff.rfl
theorem z_rpAb {i : Bool} : cReprA [.bl i] Q = cRepr [.bl i] Q := propext Iff.rfl
theorem z_rpAn : cReprA [.non] Q = cRepr [.non] Q := propext Iff.rfl
theorem op_eqA (hu : X.A.units + 66 < cLine) : OpR X (compareOp .Eq) (rLift X.K B oEqA) := by
  intro pins s σ H x y v u P I rx ry h
  obtain ⟨G, dx, dy, Q, j, hx, hy, hq, k⟩ := h
  by_cases e : ∃ ks ls, dx = .dic ks ∧ dy = .dic ls
  · obtain ⟨ks, ls, rfl, rfl⟩ := e
    exact op_eqDD hu pins s σ H x y v u P I rx ry ⟨G, _, _, Q, j, hx, hy, hq, k⟩
  · refine op_eq_d (by omega) pins s σ H x y v u P I rx ry ⟨G, dx, dy, Q, j, hx, hy, ?_, k⟩
    cases dx with
    | dic ks =>
      cases dy with
      | dic ls => exact absurd ⟨ks, ls, rfl, rfl⟩ e
      | _ => exact hq
    | _ => exact hq
theorem call_reprA (hg : X.A.guards = some []) (hu : X.A.units + 70 < cLine) : CallR X (.builtin "repr") (cLift X.K B cReprA) := by
  intro pins s σ H vs us P I rv h
  obtain ⟨G, ds, Q, j, hd, hq, k⟩ := h
  by_cases e : ∃ ks, ds = [.dic ks]
  · obtain ⟨ks, rfl⟩ := e
    exact call_reprDD hg hu pins s σ H vs us P I rv ⟨G, _, Q, j, hd, hq, k⟩
  · refine call_repr_d hg hu pins s σ H vs us P I rv ⟨G, ds, Q, j, hd, ?_, k⟩
    match ds, e, hq with
    | [.dic ks], e, _ => exact absurd ⟨ks, rfl⟩ e
    | [], _, h => exact h
    | [.non], _, h => exact h
    | [.bl _], _, h => exact h
    | [.int _], _, h => exact h
    | [.str _], _, h => exact h
    | [.lst _], _, h => exact h
    | [.tup _], _, h => exact h
    | [.ktup _], _, h => exact h
    | [.obj _ _], _, h => exact h
    | [.bag], _, h => exact h
    | a :: b :: c, _, h => cases a <;> exact h
end
theorem room_u66 {k : Nat} {A : Around} (h : Room k A) : A.units + 66 < cLine := by have := h.un; omega
theorem room_u0 {k : Nat} {A : Around} (h : Room k A) : A.units < cLine := by have := h.un; omega
end DL
/-! Dl43: places within one's own dicts; {k: new thing for ..} -/
namespace DL
open PySem PySem.Spec PyProof.Rows L2 Evl
def idxK {α : Type} (ks : List (D × α)) (y : D) : Option Nat := ks.findIdx? fun z => keqD z.1 y
def idxD {α : Type} (ks : List (D × α)) (y : D) (K : Nat → Prop) : Prop := match idxK ks y with
  | some n => K n
  | none => False
/-- x[k], x a dict -/
def rDx (ρ : DR) (ri : DE) : DR := fun δ Q => ρ δ fun i π => ri δ fun y => dicAt δ i π fun _ ks => idxD ks y fun n => Q i (π ++ [n])
theorem loc_appK {H : Hp} : ∀ (π : List Nat) {v u : V} {p : Addr} {vs : List (Key × V)} {k : Nat} {w : Key × V}, locV H v π = some u → u = .ref p → H p = some (.dK vs) → vs[k]? = some w → locV H v (π ++ [k]) = some w.2
  | [], v, u, p, vs, k, w, h, hu, hp, hk => by
    have h : some v = some u := by cases v <;> exact h
    cases h
    subst hu
    show (match H p with | some (.lst vs) => _ | some (.dK vs) => (match vs[k]? with | some u => locV H u.2 [] | none => none) | some (.dT vs) => _ | _ => none) = _
    rw [hp]
    show (match vs[k]? with | some u => locV H u.2 [] | none => none) = _
    rw [hk]
    obtain ⟨_, w⟩ := w
    cases w <;> rfl
  | n :: π, v, u, p, vs, k, w, h, hu, hp, hk => by
    cases v with
    | ref a =>
      have h : (match H a with | some (.lst vs) => (match vs[n]? with | some u => locV H u π | none => none) | some (.dK vs) => (match vs[n]? with | some u => locV H u.2 π | none => none) | some (.dT vs) => (match vs[n]? with | some u => locV H u.2 π | none => none) | _ => none) = some u := h
      show (match H a with | some (.lst vs) => (match vs[n]? with | some u => locV H u (π ++ [k]) | none => none) | some (.dK vs) => (match vs[n]? with | some u => locV H u.2 (π ++ [k]) | none => none) | some (.dT vs) => (match vs[n]? with | some u => locV H u.2 (π ++ [k]) | none => none) | _ => none) = _
      split at h
      · split at h
        · exact loc_appK π h hu hp hk
        · cases h
      · split at h
        · exact loc_appK π h hu hp hk
        · cases h
      · split at h
        · exact loc_appK π h hu hp hk
        · cases h
      · cases h
    | _ => cases h
theorem loc_appT {H : Hp} : ∀ (π : List Nat) {v u : V} {p : Addr} {vs : List (List Key × V)} {k : Nat} {w : List Key × V}, locV H v π = some u → u = .ref p → H p = some (.dT vs) → vs[k]? = some w → locV H v (π ++ [k]) = some w.2
  | [], v, u, p, vs, k, w, h, hu, hp, hk => by
    have h : some v = some u := by cases v <;> exact h
    cases h
    subst hu
    show (match H p with | some (.lst vs) => _ | some (.dK vs) => _ | some (.dT vs) => (match vs[k]? with | some u => locV H u.2 [] | none => none) | _ => none) = _
    rw [hp]
    show (match vs[k]? with | some u => locV H u.2 [] | none => none) = _
    rw [hk]
    obtain ⟨_, w⟩ := w
    cases w <;> rfl
  | n :: π, v, u, p, vs, k, w, h, hu, hp, hk => by
    cases v with
    | ref a =>
      have h : (match H a with | some (.lst vs) => (match vs[n]? with | some u => locV H u π | none => none) | some (.dK vs) => (match vs[n]? with | some u => locV H u.2 π | none => none) | some (.dT vs) => (match vs[n]? with | some u => locV H u.2 π | none => none) | _ => none) = some u := h
      show (match H a with | some (.lst vs) => (match vs[n]? with | some u => locV H u (π ++ [k]) | none => none) | some (.dK vs) => (match vs[n]? with | some u => locV H u.2 (π ++ [k]) | none => none) | some (.dT vs) => (match vs[n]? with | some u => locV H u.2 (π ++ [k]) | none => none) | _ => none) = _
      split at h
      · split at h
        · exact loc_appT π h hu hp hk
        · cases h
      · split at h
        · exact loc_appT π h hu hp hk
        · cases h
      · split at h
        · exact loc_appT π h hu hp hk
        · cases h
      · cases h
    | _ => cases h
section
variable {K : PySem.W.Frag} {B : Bx} {G H : Hp}
theorem idx_cons {α : Type} {z : D × α} {ks : List (D × α)} {y : D} : idxK (z :: ks) y = if keqD z.1 y = true then some 0 else (idxK ks y).map (· + 1) := by
  unfold idxK
  rw [List.findIdx?_cons]
theorem OwnK.idx : ∀ {vs : List (Key × V)} {xs : List (D × OD)} {f : List Addr}, OwnK K B G H vs xs f → ∀ {k : Key} {n : Nat}, idxK xs (embK k) = some n → ∃ v, valV vs k = some v ∧ vs[n]? = some (k, v)
  | _, _, _, .nil, _, _, e => nomatch e
  | _, _, _, .consI (i := i) (v := v) h t, k, n, e => by
    rw [idx_cons] at e
    have q : keqD (.int i) (embK k) = decide ((.inl i : Key) = k) := keqD_K (.inl i) k
    by_cases c : (.inl i : Key) = k
    · rw [if_pos (by rw [q]; exact decide_eq_true c)] at e
      cases e
      exact ⟨v, valV_pos (p := (Sum.inl i, v)) c, by rw [← c]; rfl⟩
    · rw [if_neg (by rw [q, decide_eq_false c]; decide)] at e
      obtain ⟨m, e1, rfl⟩ := Option.map_eq_some_iff.mp e
      obtain ⟨w, a, b⟩ := OwnK.idx t e1
      exact ⟨w, (valV_neg (p := (Sum.inl i, v)) c).trans a, b⟩
  | _, _, _, .consS (x := i) (v := v) h t, k, n, e => by
    rw [idx_cons] at e
    have q : keqD (.str i) (embK k) = decide ((.inr i : Key) = k) := keqD_K (.inr i) k
    by_cases c : (.inr i : Key) = k
    · rw [if_pos (by rw [q]; exact decide_eq_true c)] at e
      cases e
      exact ⟨v, valV_pos (p := (Sum.inr i, v)) c, by rw [← c]; rfl⟩
    · rw [if_neg (by rw [q, decide_eq_false c]; decide)] at e
      obtain ⟨m, e1, rfl⟩ := Option.map_eq_some_iff.mp e
      obtain ⟨w, a, b⟩ := OwnK.idx t e1
      exact ⟨w, (valV_neg (p := (Sum.inr i, v)) c).trans a, b⟩
theorem OwnT.idx : ∀ {vs : List (List Key × V)} {xs : List (D × OD)} {f : List Addr}, OwnT K B G H vs xs f → ∀ {k : List Key} {n : Nat}, idxK xs (embT k) = some n → ∃ v, valV vs k = some v ∧ vs[n]? = some (k, v)
  | _, _, _, .nil, _, _, e => nomatch e
  | _, _, _, .cons (k := i) (v := v) h t, k, n, e => by
    rw [idx_cons] at e
    have q := keqD_T i k
    by_cases c : i = k
    · rw [if_pos (by rw [q]; exact decide_eq_true c)] at e
      cases e
      exact ⟨v, valV_pos (p := (i, v)) c, by rw [← c]; rfl⟩
    · rw [if_neg (by rw [q, decide_eq_false c]; decide)] at e
      obtain ⟨m, e1, rfl⟩ := Option.map_eq_some_iff.mp e
      obtain ⟨w, a, b⟩ := OwnT.idx t e1
      exact ⟨w, (valV_neg (p := (i, v)) c).trans a, b⟩
theorem OwnK.idxT : ∀ {vs : List (Key × V)} {xs : List (D × OD)} {f : List Addr}, OwnK K B G H vs xs f → ∀ k : List Key, idxK xs (embT k) = none
  | _, _, _, .nil, k => rfl
  | _, _, _, .consI (i := i) h t, k => by
    rw [idx_cons, if_neg (by rw [show D.int i = embK (.inl i) from rfl, keq_KT]; decide), OwnK.idxT t k]
    rfl
  | _, _, _, .consS (x := i) h t, k => by
    rw [idx_cons, if_neg (by rw [show D.str i = embK (.inr i) from rfl, keq_KT]; decide), OwnK.idxT t k]
    rfl
theorem OwnT.idxK' : ∀ {vs : List (List Key × V)} {xs : List (D × OD)} {f : List Addr}, OwnT K B G H vs xs f → ∀ k : Key, idxK xs (embK k) = none
  | _, _, _, .nil, k => rfl
  | _, _, _, .cons h t, k => by
    rw [idx_cons, if_neg (by rw [keq_TK]; decide), OwnT.idxK' t k]
    rfl
theorem idx_key {α : Type} {ks : List (D × α)} {y : D} {n : Nat} (h : idxK ks y = some n) : (∃ k, dk1 y = some k) ∨ ∃ k, dkT y = some k := by
  unfold idxK at h
  obtain ⟨hn, hz, _⟩ := List.findIdx?_eq_some_iff_getElem.mp h
  have := hz
  unfold keqD at this
  cases h1 : dk1 y with
  | some k => exact .inl ⟨k, rfl⟩
  | none =>
    cases h2 : dkT y with
    | some k => exact .inr ⟨k, rfl⟩
    | none =>
      rw [h1, h2] at this
      split at this
      · rename_i e1 e2; cases e2
      · split at this
        · rename_i e1 e2; cases e2
        · cases this
end
section
variable {X : Cx} {B : Bx} {e o i : Expr} {r ri : DE} {ρ : DR} {pos : Pos}
theorem pr_dx (hu : X.A.units + 1 < cLine) (ho : PR X B o ρ) (hi : PD X B i ri) (hs : NoSl i := by intro _ _; rfl) : PR X B (.Subscript o i pos) (rDx ρ ri) := pe_mono (pe_dget hu ho hi hs) fun σ H P q => by
  obtain ⟨H0, G, δ, Q, j, st, hr, k⟩ := q
  refine ⟨H0, G, δ, _, j, st, hr, fun i π v0 v G2 H2 q2 g2 h0 hv => ?_⟩
  refine ⟨H0, G2, δ, _, g2.j, st.gr g2, q2, fun y u G3 H3 q3 g3 h3 => ?_⟩
  obtain ⟨t, ks, hx, q3⟩ := dicAt_at q3
  obtain ⟨fs, a1, a2, a3, a4, _⟩ := (st.gr g2).place hx h0 hv g3
  cases hn : idxK ks y with
  | none => unfold idxD at q3; rw [hn] at q3; exact q3.elim
  | some n =>
    have q4 : Q i (π ++ [n]) := by unfold idxD at q3; rw [hn] at q3; exact q3
    cases a1 with
    | @dK p vs _ f b1 b2 b3 =>
      rcases idx_key hn with ⟨kk, e1⟩ | ⟨kk, e1⟩
      · have := emb_dk1 e1
        subst this
        obtain ⟨w, c1, c2⟩ := b3.idx hn
        exact ⟨p, w, rfl, .inl ⟨vs, kk, .inl b1, keyV h3 e1, c1.symm⟩, k i _ v0 _ G3 H3 q4 (g2.trans g3) h0 (loc_appK π a4 rfl b1 c2)⟩
      · have := emb_dkT e1
        subst this
        rw [b3.idxT] at hn
        cases hn
    | @dT p vs _ f b1 b2 b3 =>
      rcases idx_key hn with ⟨kk, e1⟩ | ⟨kk, e1⟩
      · have := emb_dk1 e1
        subst this
        rw [b3.idxK'] at hn
        cases hn
      · have := emb_dkT e1
        subst this
        obtain ⟨w, c1, c2⟩ := b3.idx hn
        obtain ⟨b, rfl, hb⟩ := keyT h3 e1
        exact ⟨p, w, rfl, .inr ⟨vs, kk, b, .inl b1, rfl, g3.j.ex _ _ hb, c1.symm⟩, k i _ v0 _ G3 H3 q4 (g2.trans g3) h0 (loc_appT π a4 rfl b1 c2)⟩
end
end DL
/-! Dl44: {k: new thing for ..}, the keys tuples -/
namespace DL
open PySem PySem.Spec PyProof.Rows L2 Evl
def dcO (g : DG) (tt : DT) (tk : DE) (tv : OE) (δ : DS) (Q : List (D × OD) → Prop) : List D → List (D × OD) → Prop
  | [], acc => Q acc
  | d :: ds, acc => g d δ fun δ' => tt δ' fun b => if b = true then tk δ' fun y => tv δ' fun z => ((dkT y).isSome = true ∧ (acc.any fun p => keqD p.1 y) = false) ∧ dcO g tt tk tv δ Q ds (acc ++ [(y, z)]) else dcO g tt tk tv δ Q ds acc
def oDcO (ri : DA) (g : DG) (tt : DT) (tk : DE) (tv : OE) (vs : List Nat) : OE := fun δ Q => ri δ fun ds => ds.length < sizeLine ∧ dcO g tt tk tv (wipeD δ vs) (fun kv => Q (.dic true kv)) ds []
section
variable {K : PySem.W.Frag} {B : Bx} {G H G2 H2 : Hp}
theorem OwnT.gr {v : List (List Key × V)} {o : List (D × OD)} {f : List Addr} (h : OwnT K B G H v o f) (g : Gr K B G H G2 H2) (hf : ∀ p ∈ f, p ≠ B.b) : OwnT K B G2 H2 v o f := h.keep g.ex (g.kept fun p hp => ⟨(h.node p hp).at, hf p hp⟩)
theorem Own.snocT {k : List Key} {v : V} {o : OD} {g : List Addr} (hd : Own K B G H v o g) {vs : List (List Key × V)} {xs : List (D × OD)} {f : List Addr} (h : OwnT K B G H vs xs f) : OwnT K B G H (vs ++ [(k, v)]) (xs ++ [(embT k, o)]) (f ++ g) := OwnT.snoc hd h
theorem lift_dcO {ri : DA} {g : DG} {is : List Nat} {tt : DT} {tk : DE} {tv : OE} {vs : List Nat} {σ : L2.St} {H : Hp} {P : VK} (hv : ∀ i ∈ is, i ∈ vs) (q : liftW K B (oDcO ri g tt tk tv vs) σ H P) :
    tDcG (.dT []) (liftI K B ri) (liftG K B is g) (liftT K B tt) (liftE K B tk) (liftW K B tv) vs σ H P := by
  obtain ⟨H0, G, δ, Q, j, st, hr, k⟩ := q
  refine ⟨H0, G, δ, _, j, st, hr, fun ds J G2 H2 q2 g2 it p hp => ?_⟩
  obtain ⟨hz, q2⟩ := q2
  have nb : p ≠ B.b := Gr.neB g2.j hp
  have gp : G2 p = none := fresh_back g2.j.ex hp
  have st2 := (st.gr g2)
  refine ⟨fun i m H' => i + m = ds.length ∧ ∃ G' acc accO f, Gr K B G2 H2 G' H' ∧ G' p = none ∧ H' p = some (.dT acc) ∧ OwnT K B G' H' acc accO f ∧ Fresh B H2 f ∧ p ∉ f ∧ acc.length ≤ i ∧ dcO g tt tk tv (wipeD δ vs) (fun kv => Q (.dic true kv)) (ds.drop i) accO,
    ⟨ds.length, by omega, G2, [], [], [], Gr.new0 g2.j hp, gp, upd_same, .nil, Fresh.nil, fun z => (nomatch z), Nat.le_refl _, q2⟩, fun i m H' hw => ?_⟩
  obtain ⟨em, G', acc, accO, f, gr, gp', hp', ha, fr, np, hl, hf⟩ := hw
  by_cases hlt : i < ds.length
  · refine .inr ⟨it.go i G' H' gr.ex gr.j hlt, fun H1 => ∃ G1 acc accO f, Gr K B G2 H2 G1 H1 ∧ G1 p = none ∧ H1 p = some (.dT acc) ∧ OwnT K B G1 H1 acc accO f ∧ Fresh B H2 f ∧ p ∉ f ∧ acc.length ≤ i + 1 ∧ dcO g tt tk tv (wipeD δ vs) (fun kv => Q (.dic true kv)) (ds.drop (i + 1)) accO, fun H1 hn => ⟨m - 1, by omega, by omega, hn⟩, fun x H1 hy => ?_⟩
    have hd : ds[i]? = some ds[i] := List.getElem?_eq_getElem hlt
    obtain ⟨G3, g3, hx⟩ := it.yld i G' H' x H1 _ gr.ex gr.j hy hd
    rw [List.drop_eq_getElem_cons hlt] at hf
    have hpn : Mu H' p := ⟨_, hp', fun _ z => by cases z⟩
    have nbf : ∀ q ∈ f, q ≠ B.b := fun q hq => (fr.2 q hq).2
    refine ⟨H0, G3, wipeD δ vs, ds[i], _, g3.j, (st2.gr (gr.trans g3)).wipe vs, hx, hf, fun σ2 δ2 q3 s3 u3 => ?_⟩
    refine ⟨by rw [u3.wipe hv, wipe_wipe], H0, G3, δ2, _, g3.j, s3, q3, fun b G4 H4 q4 g4 => ?_⟩
    have g34 := g3.trans g4
    cases b with
    | false =>
      exact ⟨G4, acc, accO, f, gr.trans g34, by rw [g34.old p hpn]; exact gp', g34.keep p _ nb hp', ha.gr g34 nbf, fr, np, Nat.le_succ_of_le hl, q4⟩
    | true =>
      refine ⟨H0, G4, δ2, _, g4.j, s3.gr g4, q4, fun y u G5 H5 q5 g5 h5 => ?_⟩
      refine ⟨H0, G5, δ2, _, g5.j, (s3.gr g4).gr g5, q5, fun z w fz G6 H6 q6 g6 h6 fz6 => ?_⟩
      obtain ⟨⟨hk, hn⟩, q6⟩ := q6
      have g35 := g34.trans g5
      have g36 := g35.trans g6
      have gp6 : G6 p = none := by rw [g36.old p hpn]; exact gp'
      obtain ⟨kk, ek⟩ := Option.isSome_iff_exists.mp hk
      obtain ⟨b, eu, eb⟩ := keyT (h5.mono g6.ex) ek
      have ey := emb_dkT ek
      subst eu ey
      have e : putK acc kk w = acc ++ [(kk, w)] := by
        unfold putK
        rw [if_neg]
        rw [ha.any, hn]
        exact Bool.false_ne_true
      have hp5 : H5 p = some (.dT acc) := g35.keep p _ nb hp'
      have ha5 := ha.gr g35 nbf
      have npz : p ∉ fz := fun z => by rw [(fz6.2 p z).1] at hp5; cases hp5
      have dj : ∀ q ∈ f, ∀ q' ∈ fz, q ≠ q' := fun q hq q' hq' e => by
        subst e
        exact (ha5.node q hq).at.ne (fz6.2 q hq').1
      have ha6 := ha.gr g36 nbf
      refine ⟨upd H6 p (.dT (putK acc kk w)), .inr ⟨acc, kk, b, g36.keep p _ nb hp', rfl, g6.j.ex _ _ eb, by omega, rfl⟩, G6, acc ++ [(kk, w)], _, f ++ fz, (gr.trans g36).own hp gp6 nb, gp6, by rw [e]; exact upd_same, ?_, ⟨List.nodup_append.mpr ⟨fr.1, fz6.1, dj⟩, fun q hq => ?_⟩, fun z => (List.mem_append.mp z).elim np npz, ?_, q6⟩
      · have k1 : Kept G6 H6 G6 (upd H6 p (.dT (putK acc kk w))) f := fun q hq => ⟨upd_ne fun z => by subst z; exact np hq, rfl⟩
        have k2 : Kept G6 H6 G6 (upd H6 p (.dT (putK acc kk w))) fz := fun q hq => ⟨upd_ne fun z => by subst z; exact npz hq, rfl⟩
        exact (h6.keep (Ex.refl _) k2).snocT (ha6.keep (Ex.refl _) k1)
      · rcases List.mem_append.mp hq with hq | hq
        · exact fr.2 q hq
        · exact ⟨(gr.trans g35).free (fz6.2 q hq).1, (fz6.2 q hq).2⟩
      · rw [List.length_append]
        show acc.length + 1 ≤ i + 1
        omega
  · have e : i = ds.length := by omega
    subst e
    rw [List.drop_length] at hf
    refine .inl ⟨it.stop _ G' H' gr.ex gr.j (Nat.le_refl _), ?_⟩
    have fr' : Fresh B H f := fr.back g2
    exact k _ _ (p :: f) G' H' hf (g2.trans gr) (.dT hp' gp' ha) ⟨List.nodup_cons.mpr ⟨np, fr'.1⟩, fun q hq => (List.mem_cons.mp hq).elim (fun z => by subst z; exact ⟨g2.free hp, nb⟩) (fr'.2 q)⟩
end
section
variable {X : Cx} {B : Bx}
theorem po_dcO {kx vx tg iter : Expr} {ifs : List Expr} {scope : Scope} {own : List (Str × Nat)} {pos : Pos} {ri : DA} {g : DG} {is : List Nat} {tt : DT} {tk : DE} {tv : OE} (hu : X.A.units < cLine) (hc : X.calm = true) (hN : X.N.Nodup) (hi : PID X B tg iter ri) (ok : BlkOk X.N X.env.scope scope own) (hv : ∀ i ∈ is, i ∈ own.map (·.2))
    (hg : ∀ (s : Shared) (H : Hp) (C : Addr) (cl : List (Str × Addr)) (fp : List Addr), PGD (X.blk s H scope (compEnvC scope cl C X.env) fp) B tg is g) (ht : ∀ (s : Shared) (H : Hp) (C : Addr) (cl : List (Str × Addr)) (fp : List Addr), PTsD (X.blk s H scope (compEnvC scope cl C X.env) fp) B ifs tt)
    (hk : ∀ (s : Shared) (H : Hp) (C : Addr) (cl : List (Str × Addr)) (fp : List Addr), PD (X.blk s H scope (compEnvC scope cl C X.env) fp) B kx tk)
    (he : ∀ (s : Shared) (H : Hp) (C : Addr) (cl : List (Str × Addr)) (fp : List Addr), PO (X.blk s H scope (compEnvC scope cl C X.env) fp) B vx tv) (hs : ∀ x, foldedSetIterable iter X.env x = pure x := by intro _; rfl) :
    PO X B (.DictComp kx vx [⟨tg, iter, ifs, 0⟩] scope pos) (oDcO ri g tt tk tv (own.map (·.2))) := pe_mono (pe_dcG (.inr rfl) hu hc hN hi ok hg ht hk he hs) fun _ _ _ q => lift_dcO hv q
end
section
variable {X : Cx} {B : Bx}
/-- y = {k: v for ..} -/
theorem psd_setDcO {i : Nat} {y : Str} {py : Pos} {kx vx tg iter : Expr} {ifs : List Expr} {scope : Scope} {own : List (Str × Nat)} {pos spos : Pos} {ri : DA} {g : DG} {is : List Nat} {tt : DT} {tk : DE} {tv : OE} (hu : X.A.units < cLine) (hc : X.calm = true) (hN : X.N.Nodup) (hy : X.N[i]? = some y) (hyl : X.env.scope.names.lookup y = some .local)
    (hsw : swapsWith (.DictComp kx vx [⟨tg, iter, ifs, 0⟩] scope pos) (some (.Name y py)) spos.line X.env = pure true) (hi : PID X B tg iter ri) (ok : BlkOk X.N X.env.scope scope own) (hv : ∀ i ∈ is, i ∈ own.map (·.2))
    (hg : ∀ (s : Shared) (H : Hp) (C : Addr) (cl : List (Str × Addr)) (fp : List Addr), PGD (X.blk s H scope (compEnvC scope cl C X.env) fp) B tg is g) (ht : ∀ (s : Shared) (H : Hp) (C : Addr) (cl : List (Str × Addr)) (fp : List Addr), PTsD (X.blk s H scope (compEnvC scope cl C X.env) fp) B ifs tt)
    (hk : ∀ (s : Shared) (H : Hp) (C : Addr) (cl : List (Str × Addr)) (fp : List Addr), PD (X.blk s H scope (compEnvC scope cl C X.env) fp) B kx tk)
    (he : ∀ (s : Shared) (H : Hp) (C : Addr) (cl : List (Str × Addr)) (fp : List Addr), PO (X.blk s H scope (compEnvC scope cl C X.env) fp) B vx tv) (hs : ∀ x, foldedSetIterable iter X.env x = pure x := by intro _; rfl) :
    PSD X B (.Assign [.Name y py] (.DictComp kx vx [⟨tg, iter, ifs, 0⟩] scope pos) spos) (dSetT i (oDcO ri g tt tk tv (own.map (·.2)))) := ps_mono (ps_setDcG (.inr rfl) hu hc hN hy hyl hsw hi ok hg ht hk he hs) fun E σ H q => by
  obtain ⟨G0, H0, G, δ, W, g0, s, h, k⟩ := q
  refine lift_dcO hv ⟨H0, G, δ, _, g0.j, s, h, fun o v f G2 H2 q2 g2 h2 f2 => ?_⟩
  exact k.nx _ _ _ _ (q2 v) (g0.trans g2) g2.ex (s.setO g2 h2 f2.1 fun p hp => ⟨(f2.2 p hp).1, g0.free (f2.2 p hp).1, (f2.2 p hp).2⟩)
end
section
variable {ri : DA} {g : DG} {tt : DT} {tk : DE} {tv : OE} {vs : List Nat} {δ : DS} {Q : OD → Prop} {QR : Nat → List Nat → Prop} {ρ : DR} {r : DE}
theorem z_dcO : oDcO ri g tt tk tv vs δ Q = ri δ fun ds => ds.length < sizeLine ∧ dcO g tt tk tv (wipeD δ vs) (fun kv => Q (.dic true kv)) ds [] := propext Iff.rfl
theorem z_rDx : rDx ρ r δ QR = ρ δ fun i π => r δ fun y => dicAt δ i π fun _ ks => idxD ks y fun n => QR i (π ++ [n]) := propext Iff.rfl
end
end DL
/-! Dl45: o.f(e, ..), f a slot that holds an instance that may be called -/
namespace L2
open PySem PySem.Spec PyProof.Rows
section
variable {X : Cx} {A : Around} {E : Value → Shared → Prop} {pins : List (Addr × Obj)} {σ : L2.St} {H : Hp} {s : Shared} {a C dx p : Addr} {vs : List (Option V)} {f : Str} {i : Nat} {v : V}
theorem getMethod_sl {pl : Sem Bool} {Q : Value × List Value → Shared → Prop} (I : Inv X pins σ H s) (h : SlX.Slt H a C dx vs) (c : SlX.SCls X.K C) (t : SlX.Slot1 X.K C f p i) (l : vs[i]? = some (some v)) (q : ∀ u s', Inv X pins σ H s' → RelV v u → Q (u, []) s') :
    wpAny (model X.prog X.w) A (getMethod (.ref a) f pl) Q E s := by
  obtain ⟨sl, od, r, J, _⟩ := SlX.slt_inst I h
  have hcan := PySem.F.canon_object_ga
  have g := PySem.W.plainGet_of (c.get f)
  unfold getMethod specialOf
  refine wpAny_bind (wpAny_bind (J.type.here ((PySem.W.looks_findIn I.kIn g.1).here ?_)))
  dsimp only
  rw [hcan, if_neg (by decide)]
  refine wpAny_bind (wpAny_bind (J.type.here ((PySem.W.looks_findIn I.kIn g.2).here ?_)))
  refine wpAny_bind (wpAny_bind (J.type.here ((PySem.W.looks_findIn I.kIn t.at_).here (wpAny_bind ((PySem.W.looks_typeIn I.kIn t.ty).here ?_)))))
  rw [if_pos (by decide +kernel)]
  exact wpAny_bind (SlX.getslot_ok I h c t l fun u s' I' ru => wpAny_pure (q u s' I' ru))
end
def tSl1 (C : Addr) (i : Nat) (ta : TE) : TE := fun σ H Q => ta σ H fun x H1 => ∃ a dx vs v, x = .ref a ∧ SlX.Slt H1 a C dx vs ∧ vs[i]? = some (some v) ∧ Q v H1
section
variable {X : Cx} {o e : Expr} {es : List Expr} {f : Str} {pos apos : Pos} {ta : TE} {t : TA} {CX : CXT} {k i : Nat} {C C2 p g : Addr} {sp : Sp} {E : XK}
theorem pe_callSl {pl : Sem Bool} (he : PE X o ta) (c : SlX.SCls X.K C) (hs : SlX.Slot1 X.K C f p i) (cc : StX.CallO X.K C2 g) (F : FnR X.prog X.w X.K X.mg X.base CX k g sp) (hr : Room k X.A) (hx : Passes CX X E) (ha : PA X (e :: es) t)
    (hst : starEach (e :: es) X.env = (false, eval e X.env) :: starEach es X.env := by rfl) (hpl : (backTo pos (starEach es X.env)).any (·.1) = false := by rfl)
    (ht : eval (.Call (.Attribute o f apos) (e :: es) [] pos) X.env = (do
      let ov ← eval o X.env
      standAt apos.atName
      let (f, first) ← holding [ov] (getMethod ov f pl)
      callWith pos f first (backTo pos (starEach (e :: es) X.env)) (backToKw pos (keywordEach [] X.env))) := by rfl) :
    PE X (.Call (.Attribute o f apos) (e :: es) [] pos) (StX.tCallO X C2 sp E (tSl1 C i ta) t) := by
  refine ⟨fun pins s σ H Q I h => ?_⟩
  refine PySem.W.methodCall_KW (pl := pl) (thn (he.run pins s σ H _ I h) fun u s1 ⟨x, H1, I1, rx, a, dx, vs, v, ex, hsl, l, q⟩ => ?_) ht
  subst ex
  obtain rfl : u = Value.ref a := rx
  refine getMethod_sl I1 hsl c hs l fun u s' I' ru => ?_
  obtain ⟨b, ev, q⟩ := q
  subst ev
  obtain rfl : u = Value.ref b := ru
  refine StX.callO_with (thn (ha.run pos pins s' σ H1 _ I' q) fun us s2 ⟨ws, H2, I2, r, hi, q2⟩ => ?_) hst hpl
  obtain ⟨ox, od, J, hd⟩ := StX.insC_at I2 hi
  exact ⟨⟨C2, ox, od, J, hd⟩, StX.run_callO cc F hr hx I2 hi r q2⟩
end
end L2
namespace DL
open PySem PySem.Spec PyProof.Rows L2 Evl
section
variable {X : Cx} {B : Bx} {e o : Expr} {es : List Expr} {r : DE} {pos apos : Pos} {g : Addr} {f : Str} {i k C C2 : Nat} {Sf : FD} {ra : DA}
theorem pd_callF {pl : Sem Bool} (c : SlX.SCls X.K (B.ct C)) (T : SlotAt X.K (B.ct C) f i) (cc : StX.CallO X.K (B.ct C2) g) (F : FnR X.prog X.w X.K X.mg X.base CX0 k g (spD X.K B Sf)) (hr : Room k X.A) (he : PD X B o r) (ha : PAD X B (e :: es) ra)
    (hst : starEach (e :: es) X.env = (false, eval e X.env) :: starEach es X.env := by rfl) (hpl : (backTo pos (starEach es X.env)).any (·.1) = false := by rfl)
    (ht : eval (.Call (.Attribute o f apos) (e :: es) [] pos) X.env = (do
      let ov ← eval o X.env
      standAt apos.atName
      let (f, first) ← holding [ov] (getMethod ov f pl)
      callWith pos f first (backTo pos (starEach (e :: es) X.env)) (backToKw pos (keywordEach [] X.env))) := by rfl) :
    PD X B (.Call (.Attribute o f apos) (e :: es) [] pos) (dCallO C2 Sf (dFld C i r) ra) := by
  obtain ⟨p, t⟩ := T.ex
  refine pe_mono (pe_callSl (E := E0) he c t cc F hr pass0 ha hst hpl ht) fun σ H P q => ?_
  obtain ⟨H0, G, δ, Q, j, st, hr, k⟩ := q
  refine ⟨H0, G, δ, _, j, st, hr, fun d v G2 H2 q2 g2 h2 => ?_⟩
  cases h2 with
  | @obj a dx C' vs fs h3 h4 h5 =>
    obtain ⟨rfl, q2⟩ := q2
    cases hf : fs[i]? with
    | none => rw [hf] at q2; exact q2.elim
    | some d =>
      rw [hf] at q2
      obtain ⟨v, hv, dv⟩ := h5.get hf
      refine ⟨a, dx, _, v, rfl, obj_slt (K := X.K) (B := B) g2.j.ex h3 h4, by rw [List.getElem?_map, hv]; rfl, ?_⟩
      obtain ⟨ho, q2⟩ := q2
      cases dv with
      | @obj b dy C3 us gs h6 h7 h8 =>
        have ho : C3 = C2 := ho
        subst ho
        refine ⟨b, rfl, H0, G2, δ, _, g2.j, st.gr g2, q2, fun ds ws G3 H3 q3 g3 h9 => ⟨.inl ⟨dy, _, obj_slt (K := X.K) (B := B) (g3.ex.trans g3.j.ex) h6 h7⟩, ?_⟩⟩
        exact ⟨G3, _, Q, g3.j, .cons ((Dat.obj h6 h7 h8).mono g3.ex) h9, q3, fun d v G4 H4 q4 g4 h7 => k d v G4 H4 q4 ((g2.trans g3).trans g4) h7⟩
      | _ => exact ho.elim
  | _ => exact q2.elim
end
end DL
/-! Dl46: dict(pairs) with tuple keys; lists of pairs (key, what is one's own) -/
namespace L2
open PySem PySem.Spec PyProof.Rows
section
variable {X : Cx}
def PrT (K : PySem.W.Frag) (H : Hp) (p : Addr) (kv : List Key × V) : Prop := ∃ b, SqT K H p [V.ref b, kv.2] ∧ H b = some (.tup (kv.1.map kV))
theorem pairsT_of {pins : List (Addr × Obj)} {σ : St} {H : Hp} {s : Shared} (I : Inv X pins σ H s) : ∀ {ps : List Addr} {kvs : List (List Key × V)}, Paired (PrT X.K H) ps kvs →
    ∃ prs : List (List Key × Addr × Value), KT H kvs prs ∧ prs.length = ps.length ∧ ∀ (j : Nat) (q : List Key × Addr × Value), prs[j]? = some q → ∃ b : Addr, ps[j]? = some b ∧ IsTup s.heap b #[.ref q.2.1, q.2.2] ∧ H q.2.1 = some (.tup (q.1.map kV))
  | _, _, .nil => ⟨[], .nil, rfl, fun j q e => by simp at e⟩
  | _, _, .cons (a := p) (b := kv) ⟨b, h, hb⟩ t => by
    obtain ⟨prs, r, hl, hp⟩ := pairsT_of I t
    obtain ⟨its, rv, ht, _⟩ := I.tuple h
    obtain ⟨u, y, ei, ru, ry⟩ := vals2 rv
    subst ei
    cases (show u = Value.ref b from ru)
    refine ⟨(kv.1, b, y) :: prs, .cons ⟨rfl, hb, ry⟩ r, by rw [List.length_cons, List.length_cons, hl], fun j q e => ?_⟩
    cases j with
    | zero =>
      cases e
      exact ⟨p, rfl, ht, hb⟩
    | succ j =>
      obtain ⟨b', e1, e2, e3⟩ := hp j q (by simpa using e)
      exact ⟨b', by simpa using e1, e2, e3⟩
/-- dict(xs) of a list of pairs (tuple, value), the keys unlike -/
theorem call_dictPT (hcalm : X.calm = true) (hu : X.A.units + 2 < cLine) : CallR X (.type "dict") (fun xs H Q => ∃ (a : Addr) (ps : List Addr) (kvs : List (List Key × V)), xs = [.ref a] ∧ SqL X.K H a (ps.map V.ref) ∧ Paired (PrT X.K H) ps kvs ∧ (kvs.map (·.1)).Nodup ∧
    ∀ p, H p = none → Q (.ref p) (upd H p (.dT kvs))) := by
  intro pins s σ H xs us Q I r q
  obtain ⟨a, ps, kvs, ex, hq, hp, hn, q⟩ := q
  subst ex
  obtain ⟨u, eu, rx⟩ := vals1 r
  subst eu
  cases rx
  obtain ⟨its, rv, pl, hz⟩ := I.list hq
  have ei := refs_at rv
  subst ei
  rw [List.length_map] at hz
  obtain ⟨prs, rel, hl, hpr⟩ := pairsT_of I hp
  obtain ⟨o, n, ho, hc, hd, hdat⟩ := pl
  have hkn : (prs.map (·.1)).Nodup := by
    have : prs.map (·.1) = kvs.map (·.1) := by
      clear hpr hl hn q hp hz rv hq hdat
      induction rel with
      | nil => rfl
      | cons h _ ih => rw [List.map_cons, List.map_cons, ih, h.1]
    rw [this]
    exact hn
  refine call_dict_pairsH (knd := tupleKind (mixKind X.prog X.w)) (ps := prs) (PairArg.list a (ps.map Value.ref).toArray (fun j => ps.getD j 0) (prs.map fun q => (Value.ref q.2.1, q.2.2))) (I.ok.hd hcalm) (tupleKind_room_in1 (A := X.A.in1) hu) ?_ ?_ ?_ ?_ ?_
  · refine ⟨⟨o, n, ho, hc, hd, hdat⟩, by simp [hl], fun j k v e => ?_⟩
    rw [List.getElem?_map] at e
    obtain ⟨q0, e1, e2⟩ := Option.map_eq_some_iff.mp e
    cases e2
    obtain ⟨b, h1, h2, _⟩ := hpr j q0 e1
    refine ⟨by simp [h1], .inl ?_⟩
    show s.heap.IsTuple (ps.getD j 0) _
    rw [List.getD_eq_getElem?_getD, h1]
    obtain ⟨o1, a1, a2, n1, a3⟩ := h2
    exact ⟨o1, a1, a2, n1, a3⟩
  · refine ⟨by simp, fun i key v e => ?_⟩
    have e : (prs.map fun q => (Value.ref q.2.1, q.2.2))[i]? = some (key, v) := e
    rw [List.getElem?_map] at e
    obtain ⟨q0, e1, e2⟩ := Option.map_eq_some_iff.mp e
    cases e2
    exact ⟨q0.1, q0.2.1, e1, rfl⟩
  · intro h' hk x hx
    obtain ⟨i, hi, e⟩ := List.getElem_of_mem hx
    obtain ⟨b, h1, h2, h3⟩ := hpr i x (by rw [List.getElem?_eq_getElem hi, e])
    obtain ⟨o1, its, n1, a1, a2, a3, a4⟩ := key_of I.hok h3
    exact ⟨o1, its, n1, hk _ _ (Nat.ne_of_lt (Heap.lt_size a1)) (by simp) a1, a2, a3, a4⟩
  · rw [List.length_map, hl]
    exact hz
  · intro h' tk hd' hk
    rw [storedAllH_nil_of_nodup _ hkn] at hd'
    have hm : (s.heap.objs.size == sysModules) = false := beq_eq_false_iff_ne.mpr (Nat.ne_of_gt I.big)
    have hlen : kvs.length ≤ sizeLine := by rw [Paired.length rel, hl]; exact hz
    have hk' : ∀ b o, s.heap.get? b = some o → h'.get? b = some o := fun b o e => hk b o (by simp) e
    have dd : ∃ o es ep, h'.get? s.heap.objs.size = some o ∧ o.ExactDict ∧ o.data = .dict es ep ∧ es.toList = prs.map (entryOfKey (tupleKind (mixKind X.prog X.w))) ∧ (prs.map (·.1)).Nodup := by
      obtain ⟨o1, es, ep, b1, b2, b3, b4, b5, b6⟩ := hd'
      exact ⟨o1, es, ep, b1, b2, b3, b4, b6⟩
    exact ⟨.ref s.heap.objs.size, upd H s.heap.objs.size (.dT kvs), I.laid (t' := tk) hk' (Nat.le_refl _) ⟨hlen, hm, prs, rel.keeps fun c ys e => (upd_ne (ne_of_none e (I.hok.fresh (Nat.le_refl _)))).trans e, dd⟩, rfl, q _ (I.hok.fresh (Nat.le_refl _))⟩
end
end L2
namespace DL
open PySem PySem.Spec PyProof.Rows L2 Evl
/-! lists of pairs (key, what is one's own), all new -/
inductive Prs (K : PySem.W.Frag) (B : Bx) (G H : Hp) : List Addr → List (List Key × V) → List (D × OD) → List Addr → Prop
  | nil : Prs K B G H [] [] [] []
  | cons {t b : Addr} {k : List Key} {v : V} {o : OD} {f g : List Addr} {ts : List Addr} {kvs : List (List Key × V)} {os : List (D × OD)} : H t = some (.tup [.ref b, v]) → H b = some (.tup (k.map kV)) → Own K B G H v o f → Prs K B G H ts kvs os g → Prs K B G H (t :: ts) ((k, v) :: kvs) ((embT k, o) :: os) (f ++ g)
abbrev OP := DS → (List (D × OD) → Prop) → Prop
def liftPr (K : PySem.W.Frag) (B : Bx) (r : OP) : TE := fun σ H P => ∃ (H0 G : Hp) (δ : DS) (Q : List (D × OD) → Prop), Jn K B G H ∧ StOk K B H0 G H σ δ ∧ r δ Q ∧ ∀ os p ts kvs f G2 H2, Q os → Gr K B G H G2 H2 → H2 p = some (.lst (ts.map V.ref)) → Prs K B G2 H2 ts kvs os f → Fresh B H f → H p = none → P (.ref p) H2
abbrev PPr (X : Cx) (B : Bx) (e : Expr) (r : OP) : Prop := PE X e (liftPr X.K B r)
section
variable {K : PySem.W.Frag} {B : Bx} {G H G2 H2 : Hp}
theorem Prs.own : ∀ {ts : List Addr} {kvs : List (List Key × V)} {os : List (D × OD)} {f : List Addr}, Prs K B G H ts kvs os f → OwnT K B G H kvs os f
  | _, _, _, _, .nil => .nil
  | _, _, _, _, .cons _ _ h t => .cons h t.own
theorem Prs.prt : ∀ {ts : List Addr} {kvs : List (List Key × V)} {os : List (D × OD)} {f : List Addr}, Prs K B G H ts kvs os f → Paired (PrT K H) ts kvs
  | _, _, _, _, .nil => .nil
  | _, _, _, _, .cons h1 h2 _ t => .cons ⟨_, st_of h1, h2⟩ t.prt
theorem Prs.keys : ∀ {ts : List Addr} {kvs : List (List Key × V)} {os : List (D × OD)} {f : List Addr}, Prs K B G H ts kvs os f → (kvs.map (·.1)).map embT = os.map (·.1)
  | _, _, _, _, .nil => rfl
  | _, _, _, _, .cons _ _ _ t => by rw [List.map_cons, List.map_cons, List.map_cons, t.keys]
theorem Prs.len : ∀ {ts : List Addr} {kvs : List (List Key × V)} {os : List (D × OD)} {f : List Addr}, Prs K B G H ts kvs os f → ts.length = os.length
  | _, _, _, _, .nil => rfl
  | _, _, _, _, .cons _ _ _ t => by rw [List.length_cons, List.length_cons, t.len]
theorem Prs.keep (e : Ex G G2) (hk : ∀ a o, H a = some (.tup o) → H2 a = some (.tup o)) : ∀ {ts : List Addr} {kvs : List (List Key × V)} {os : List (D × OD)} {f : List Addr}, Prs K B G H ts kvs os f → Kept G H G2 H2 f → Prs K B G2 H2 ts kvs os f
  | _, _, _, _, .nil, _ => .nil
  | _, _, _, _, .cons h1 h2 h t, k => .cons (hk _ _ h1) (hk _ _ h2) (h.keep e k.l) (Prs.keep e hk t k.r)
theorem Prs.append : ∀ {ts us : List Addr} {kvs lvs : List (List Key × V)} {os ps : List (D × OD)} {f g : List Addr}, Prs K B G H ts kvs os f → Prs K B G H us lvs ps g → Prs K B G H (ts ++ us) (kvs ++ lvs) (os ++ ps) (f ++ g)
  | _, _, _, _, _, _, _, _, .nil, h => h
  | _, _, _, _, _, _, _, _, .cons h1 h2 h t, h3 => by
    rw [List.append_assoc]
    exact .cons h1 h2 h (t.append h3)
theorem Jn.noTup (j : Jn K B G H) {a : Addr} {o : List V} (e : H a = some (.tup o)) : a ≠ B.b := fun z => by
  obtain ⟨_, _, _, _, hb, _⟩ := j.bag
  rw [z, hb] at e
  cases e
theorem Gr.keepT (j : Jn K B G H) (g : Gr K B G H G2 H2) : ∀ a o, H a = some (.tup o) → H2 a = some (.tup o) := fun a o e => g.keep a _ (j.noTup e) e
theorem Prs.gr {ts : List Addr} {kvs : List (List Key × V)} {os : List (D × OD)} {f : List Addr} (j : Jn K B G H) (h : Prs K B G H ts kvs os f) (g : Gr K B G H G2 H2) (hf : ∀ p ∈ f, p ≠ B.b) : Prs K B G2 H2 ts kvs os f := h.keep g.ex (g.keepT j) (g.kept fun p hp => ⟨(h.own.node p hp).at, hf p hp⟩)
theorem Prs.upd {ts : List Addr} {kvs : List (List Key × V)} {os : List (D × OD)} {f : List Addr} {p : Addr} {o : HO} (h : Prs K B G H ts kvs os f) (hp : ∀ vs, H p ≠ some (.tup vs)) (np : p ∉ f) : Prs K B G (upd H p o) ts kvs os f :=
  h.keep (Ex.refl _) (fun a o e => by rw [upd_ne (fun z => hp _ (z ▸ e))]; exact e) fun q hq => ⟨upd_ne fun z => by subst z; exact np hq, rfl⟩
/-! [(k, new thing) for ..] -/
def lcP (g : DG) (tt : DT) (tk : DE) (tv : OE) (δ : DS) (Q : List (D × OD) → Prop) : List D → List (D × OD) → Prop
  | [], acc => Q acc
  | d :: ds, acc => g d δ fun δ' => tt δ' fun b => if b = true then tk δ' fun y => tv δ' fun z => (dkT y).isSome = true ∧ lcP g tt tk tv δ Q ds (acc ++ [(y, z)]) else lcP g tt tk tv δ Q ds acc
def pLc (ri : DA) (g : DG) (tt : DT) (tk : DE) (tv : OE) (vs : List Nat) : OP := fun δ Q => ri δ fun ds => ds.length ≤ sizeLine ∧ lcP g tt tk tv (wipeD δ vs) Q ds []
def tPr (tk tv : TE) : TE := fun σ H P => tk σ H fun y H1 => tv σ H1 fun z H2 => [y, z].length ≤ sizeLine ∧ ∀ t, H2 t = none → P (.ref t) (upd H2 t (.tup [y, z]))
theorem pe_pr {X : Cx} {a b : Expr} {k : Nat} {pos : Pos} {ta tb : TE} (ha : PE X a ta) (hb : PE X b tb) (hs : starEach [a, b] X.env = (false, eval a X.env) :: starEach [b] X.env := by rfl) (hs2 : starEach [b] X.env = (false, eval b X.env) :: starEach [] X.env := by rfl) : PE X (.Tuple [a, b] k pos) (tPr ta tb) :=
  pe_tup (pa_cons ha (pa_cons hb pa_nil hs2) hs)
theorem lift_pLc {ri : DA} {g : DG} {is : List Nat} {tt : DT} {tk : DE} {tv : OE} {vs : List Nat} {σ : L2.St} {H : Hp} {P : VK} (hv : ∀ i ∈ is, i ∈ vs) (q : liftPr K B (pLc ri g tt tk tv vs) σ H P) :
    tLc (liftI K B ri) (liftG K B is g) (liftT K B tt) (tPr (liftE K B tk) (liftW K B tv)) vs σ H P := by
  obtain ⟨H0, G, δ, Q, j, st, hr, k⟩ := q
  refine ⟨H0, G, δ, _, j, st, hr, fun ds J G2 H2 q2 g2 it p hp => ?_⟩
  obtain ⟨hz, q2⟩ := q2
  have nb : p ≠ B.b := Gr.neB g2.j hp
  have gp : G2 p = none := fresh_back g2.j.ex hp
  have st2 := (st.gr g2)
  refine ⟨fun i m H' => i + m = ds.length ∧ ∃ G' ts kvs os f, Gr K B G2 H2 G' H' ∧ G' p = none ∧ H' p = some (.lst (ts.map V.ref)) ∧ Prs K B G' H' ts kvs os f ∧ Fresh B H2 f ∧ p ∉ f ∧ ts.length ≤ i ∧ lcP g tt tk tv (wipeD δ vs) Q (ds.drop i) os,
    ⟨ds.length, by omega, G2, [], [], [], [], Gr.new0 g2.j hp, gp, upd_same, .nil, Fresh.nil, fun z => (nomatch z), Nat.le_refl _, q2⟩, fun i m H' hw => ?_⟩
  obtain ⟨em, G', ts, kvs, os, f, gr, gp', hp', ha, fr, np, hl, hf⟩ := hw
  by_cases hlt : i < ds.length
  · refine .inr ⟨it.go i G' H' gr.ex gr.j hlt, fun H1 => ∃ G1 ts kvs os f, Gr K B G2 H2 G1 H1 ∧ G1 p = none ∧ H1 p = some (.lst (ts.map V.ref)) ∧ Prs K B G1 H1 ts kvs os f ∧ Fresh B H2 f ∧ p ∉ f ∧ ts.length ≤ i + 1 ∧ lcP g tt tk tv (wipeD δ vs) Q (ds.drop (i + 1)) os, fun H1 hn => ⟨m - 1, by omega, by omega, hn⟩, fun x H1 hy => ?_⟩
    have hd : ds[i]? = some ds[i] := List.getElem?_eq_getElem hlt
    obtain ⟨G3, g3, hx⟩ := it.yld i G' H' x H1 _ gr.ex gr.j hy hd
    rw [List.drop_eq_getElem_cons hlt] at hf
    have hpn : Mu H' p := ⟨_, hp', fun _ z => by cases z⟩
    have nbf : ∀ q ∈ f, q ≠ B.b := fun q hq => (fr.2 q hq).2
    refine ⟨H0, G3, wipeD δ vs, ds[i], _, g3.j, (st2.gr (gr.trans g3)).wipe vs, hx, hf, fun σ2 δ2 q3 s3 u3 => ?_⟩
    refine ⟨by rw [u3.wipe hv, wipe_wipe], H0, G3, δ2, _, g3.j, s3, q3, fun b G4 H4 q4 g4 => ?_⟩
    have g34 := g3.trans g4
    cases b with
    | false =>
      exact ⟨G4, ts, kvs, os, f, gr.trans g34, by rw [g34.old p hpn]; exact gp', g34.keep p _ nb hp', ha.gr gr.j g34 nbf, fr, np, Nat.le_succ_of_le hl, q4⟩
    | true =>
      refine ⟨H0, G4, δ2, _, g4.j, s3.gr g4, q4, fun y u G5 H5 q5 g5 h5 => ?_⟩
      refine ⟨H0, G5, δ2, _, g5.j, (s3.gr g4).gr g5, q5, fun z w fz G6 H6 q6 g6 h6 fz6 => ⟨by show 2 ≤ sizeLine; decide, fun t ht => ?_⟩⟩
      obtain ⟨hk, q6⟩ := q6
      have g35 := g34.trans g5
      have g36 := g35.trans g6
      have gp6 : G6 p = none := by rw [g36.old p hpn]; exact gp'
      obtain ⟨kk, ek⟩ := Option.isSome_iff_exists.mp hk
      obtain ⟨b, eu, eb⟩ := keyT (h5.mono g6.ex) ek
      have ey := emb_dkT ek
      subst eu ey
      have hp6 : H6 p = some (.lst (ts.map V.ref)) := g36.keep p _ nb hp'
      have hp5 : H5 p = some (.lst (ts.map V.ref)) := g35.keep p _ nb hp'
      have ntp : p ≠ t := fun z => by rw [z, ht] at hp6; cases hp6
      have npz : p ∉ fz := fun z => by rw [(fz6.2 p z).1] at hp5; cases hp5
      have ha5 := ha.gr gr.j g35 nbf
      have ha6 := ha.gr gr.j g36 nbf
      have dj : ∀ q ∈ f, ∀ q' ∈ fz, q ≠ q' := fun q hq q' hq' e => by
        subst e
        exact (ha5.own.node q hq).at.ne (fz6.2 q hq').1
      have ntf : t ∉ f := fun z => (ha6.own.node t z).at.ne ht
      have ntz : t ∉ fz := fun z => (h6.node t z).at.ne ht
      have g7 := g36.trans (Gr.new0 (o := .tup [.ref b, w]) g6.j ht)
      refine ⟨ts.map V.ref, by rw [upd_ne ntp]; exact hp6, by rw [List.length_map]; omega, G6, ts ++ [t], kvs ++ [(kk, w)], os ++ [(embT kk, z)], f ++ (fz ++ []), (gr.trans g7).own hp gp6 nb, gp6, by rw [upd_same, List.map_append]; rfl, ?_, ?_, ?_, ?_, q6⟩
      · have nt6 : ∀ vs, H6 t ≠ some (.tup vs) := fun vs z => by rw [ht] at z; cases z
        have np6 : ∀ (h : HO) vs, upd H6 t h p ≠ some (.tup vs) := fun h vs z => by rw [upd_ne ntp, hp6] at z; cases z
        refine ((ha6.upd (o := .tup [.ref b, w]) nt6 ntf).upd (np6 _) np).append (Prs.cons (b := b) ?_ ?_ ?_ .nil)
        · rw [upd_ne (Ne.symm ntp)]
          exact upd_same
        · have hb6 : H6 b = some (.tup (kk.map kV)) := g6.j.ex _ _ eb
          have n1 : b ≠ p := fun z => by rw [z, hp6] at hb6; cases hb6
          have n2 : b ≠ t := fun z => by rw [z, ht] at hb6; cases hb6
          rw [upd_ne n1, upd_ne n2]
          exact hb6
        · exact (h6.keep (Ex.refl _) fun q hq => ⟨upd_ne fun z => by subst z; exact ntz hq, rfl⟩).keep (Ex.refl _) fun q hq => ⟨upd_ne fun z => by subst z; exact npz hq, rfl⟩
      · rw [List.append_nil]
        refine ⟨List.nodup_append.mpr ⟨fr.1, fz6.1, dj⟩, fun q hq => ?_⟩
        rcases List.mem_append.mp hq with hq | hq
        · exact fr.2 q hq
        · exact ⟨(gr.trans g35).free (fz6.2 q hq).1, (fz6.2 q hq).2⟩
      · rw [List.append_nil]
        exact fun z => (List.mem_append.mp z).elim np npz
      · rw [List.length_append]
        show ts.length + 1 ≤ i + 1
        omega
  · have e : i = ds.length := by omega
    subst e
    rw [List.drop_length] at hf
    exact .inl ⟨it.stop _ G' H' gr.ex gr.j (Nat.le_refl _), k _ p ts kvs f G' H' hf (g2.trans gr) hp' ha (fr.back g2) (g2.free hp)⟩
end
section
variable {X : Cx} {B : Bx} {a b e : Expr} {pos : Pos}
theorem ppr_lc {ke ve tg iter : Expr} {ifs : List Expr} {kt : Nat} {pt : Pos} {scope : Scope} {own : List (Str × Nat)} {pos : Pos} {ri : DA} {g : DG} {is : List Nat} {tt : DT} {tk : DE} {tv : OE} (hc : X.calm = true) (hN : X.N.Nodup) (hi : PID X B tg iter ri) (ok : BlkOk X.N X.env.scope scope own) (hv : ∀ i ∈ is, i ∈ own.map (·.2))
    (hg : ∀ (s : Shared) (H : Hp) (C : Addr) (cl : List (Str × Addr)) (fp : List Addr), PGD (X.blk s H scope (compEnvC scope cl C X.env) fp) B tg is g) (ht : ∀ (s : Shared) (H : Hp) (C : Addr) (cl : List (Str × Addr)) (fp : List Addr), PTsD (X.blk s H scope (compEnvC scope cl C X.env) fp) B ifs tt)
    (hk : ∀ (s : Shared) (H : Hp) (C : Addr) (cl : List (Str × Addr)) (fp : List Addr), PD (X.blk s H scope (compEnvC scope cl C X.env) fp) B ke tk)
    (he : ∀ (s : Shared) (H : Hp) (C : Addr) (cl : List (Str × Addr)) (fp : List Addr), PO (X.blk s H scope (compEnvC scope cl C X.env) fp) B ve tv)
    (hs1 : ∀ (E : Env), starEach [ke, ve] E = (false, eval ke E) :: starEach [ve] E := by intro _; rfl) (hs2 : ∀ (E : Env), starEach [ve] E = (false, eval ve E) :: starEach [] E := by intro _; rfl) (hs : ∀ x, foldedSetIterable iter X.env x = pure x := by intro _; rfl) :
    PPr X B (.ListComp (.Tuple [ke, ve] kt pt) [⟨tg, iter, ifs, 0⟩] scope pos) (pLc ri g tt tk tv (own.map (·.2))) :=
  pe_mono (pe_lc hc hN hi ok hg ht (fun s H C cl fp => pe_pr (hk s H C cl fp) (he s H C cl fp) (hs1 _) (hs2 _)) hs) fun σ H P q => lift_pLc hv q
def pCat (ra rb : OP) : OP := fun δ Q => ra δ fun xs => rb δ fun ys => xs.length + ys.length ≤ sizeLine ∧ Q (xs ++ ys)
theorem ppr_cat {ra rb : OP} (ha : PPr X B a ra) (hb : PPr X B b rb) : PPr X B (.BinOp a .Add b pos) (pCat ra rb) := pe_mono (pe_op op_cat ha hb) fun σ H P q => by
  obtain ⟨H0, G, δ, Q, j, st, hr, k⟩ := q
  refine ⟨H0, G, δ, _, j, st, hr, fun os p ts kvs f G2 H2 q2 g2 h2 d2 f2 n2 => ?_⟩
  refine ⟨H0, G2, δ, _, g2.j, st.gr g2, q2, fun ps r us lvs f' G3 H3 q3 g3 h3 d3 f3 n3 => ?_⟩
  obtain ⟨hz, q3⟩ := q3
  have d2' := d2.gr g2.j g3 fun q hq => (f2.2 q hq).2
  refine ⟨p, r, _, _, rfl, rfl, g3.keep p _ (Gr.neB j n2) h2, h3, by rw [List.length_map, List.length_map, d2.len, d3.len]; exact hz, fun l hl => ?_⟩
  have nl : ∀ q ∈ f ++ f', q ≠ l := fun q hq e => by
    subst e
    exact (((d2'.append d3).own.node q hq).at.ne) hl
  refine k _ l (ts ++ us) _ (f ++ f') G3 _ q3 ((g2.trans g3).trans (Gr.new0 g3.j hl)) (by rw [upd_same, List.map_append]) ((d2'.append d3).upd (fun vs z => by rw [hl] at z; cases z) fun z => nl l z rfl) ⟨List.nodup_append.mpr ⟨f2.1, f3.1, fun q hq q' hq' e => ?_⟩, fun q hq => ?_⟩ ((g2.trans g3).free hl)
  · subst e
    exact (d2.own.node q hq).at.ne (f3.2 q hq').1
  · rcases List.mem_append.mp hq with hq | hq
    · exact f2.2 q hq
    · exact ⟨g2.free (f3.2 q hq).1, (f3.2 q hq).2⟩
/-- dict(pairs) -/
def oDictP (r : OP) : OE := fun δ Q => r δ fun os => os.Pairwise (fun x y => keqD x.1 y.1 = false) ∧ Q (.dic true os)
theorem po_dictP {r : OP} {p : Pos} (hc : X.calm = true) (hu : X.A.units + 2 < cLine) (hg : Gl X "dict") (hm : X.mg "dict" = none) (ha : PPr X B e r) (hs : starEach [e] X.env = (false, eval e X.env) :: starEach [] X.env := by rfl) (hpl : (backTo pos (starEach [] X.env)).any (·.1) = false := by rfl) :
    PO X B (.Call (.Name "dict" p) [e] [] pos) (oDictP r) := pe_mono (pe_callTy (call_dictPT hc hu) hg hm (by decide +kernel) (pa_cons ha pa_nil hs) (by decide) (by decide) hs hpl) fun σ H P q => by
  obtain ⟨H0, G, δ, Q, j, st, hr, k⟩ := q
  refine ⟨H0, G, δ, _, j, st, hr, fun os p ts kvs f G2 H2 q2 g2 h2 d2 f2 n2 => ?_⟩
  obtain ⟨hn, q2⟩ := q2
  have hn2 : (kvs.map (·.1)).Nodup := by
    have h1 : (os.map (·.1)).Pairwise (fun x y => keqD x y = false) := List.pairwise_map.mpr hn
    rw [← d2.keys] at h1
    refine (List.pairwise_map.mp h1).imp fun {a b} z e => ?_
    subst e
    rw [keqD_T, decide_eq_true rfl] at z
    cases z
  refine ⟨p, ts, kvs, rfl, sq_of h2, d2.prt, hn2, fun l hl => ?_⟩
  have nl : l ∉ f := fun z => (d2.own.node l z).at.ne hl
  have d3 := d2.upd (o := .dT kvs) (fun vs z => by rw [hl] at z; cases z) nl
  exact k _ _ (l :: f) G2 _ q2 (g2.trans (Gr.new0 g2.j hl)) (.dT upd_same (fresh_back g2.j.ex hl) d3.own) ⟨List.nodup_cons.mpr ⟨nl, f2.1⟩, fun q hq => (List.mem_cons.mp hq).elim (fun z => by subst z; exact ⟨g2.free hl, Gr.neB g2.j hl⟩) (f2.2 q)⟩
end
end DL
/-! Dl47: xs[::-1]; how dict(pairs) is worked out -/
namespace DL
open PySem PySem.Spec PyProof.Rows L2 Evl
def fRev (ra : DE) : DA := fun δ Q => ra δ fun x => match x with
  | .lst xs => Q xs.reverse
  | _ => False
section
variable {X : Cx} {B : Bx} {K : PySem.W.Frag} {G H : Hp} {e : Expr} {ra : DE} {pos : Pos}
theorem Dats.reverse : ∀ {v : List V} {d : List D}, Dats K B G v d → Dats K B G v.reverse d.reverse
  | _, _, .nil => .nil
  | _, _, .cons h t => by
    rw [List.reverse_cons, List.reverse_cons]
    exact (Dats.reverse t).append (.cons h .nil)
theorem pf_rev {k : Nat} {p1 p2 p3 : Pos} (ha : PD X B e ra) : PF X B (.Subscript e (.Slice none none (some (.UnaryOp .USub (.Constant (.int 1) k p1) p2)) p3) pos) (fRev ra) := pe_mono (pe_revL ha) fun σ H P q => by
  obtain ⟨H0, G, δ, Q, j, st, hr, k⟩ := q
  refine ⟨H0, G, δ, _, j, st, hr, fun x v G2 H2 q2 g2 h2 => ?_⟩
  cases h2 with
  | lst h4 h5 => exact ⟨_, _, rfl, sq_of (g2.j.ex _ _ h4), fun p hp => pf_new k g2 hp h5.reverse q2⟩
  | _ => exact q2.elim
end
section
variable {ra : DE} {δ : DS} {Q : List D → Prop} {r rb : OP} {QO : OD → Prop} {QP : List (D × OD) → Prop} {ri : DA} {g : DG} {tt : DT} {tk : DE} {tv : OE} {vs : List Nat} {xs : List D}
def revQ (x : D) (Q : List D → Prop) : Prop := match x with
  | .lst xs => Q xs.reverse
  | _ => False
theorem room_u2 {k : Nat} {A : Around} (h : Room k A) : A.units + 2 < cLine := by have := h.un; omega
theorem z_rev : fRev ra δ Q = ra δ fun x => revQ x Q := propext Iff.rfl
theorem z_revL : revQ (.lst xs) Q = Q xs.reverse := propext Iff.rfl
theorem z_dictP : oDictP r δ QO = r δ fun os => os.Pairwise (fun x y => keqD x.1 y.1 = false) ∧ QO (.dic true os) := propext Iff.rfl
theorem z_pCat {ra : OP} : pCat ra rb δ QP = ra δ fun xs => rb δ fun ys => xs.length + ys.length ≤ sizeLine ∧ QP (xs ++ ys) := propext Iff.rfl
theorem z_pLc : pLc ri g tt tk tv vs δ QP = ri δ fun ds => ds.length ≤ sizeLine ∧ lcP g tt tk tv (wipeD δ vs) QP ds [] := propext Iff.rfl
theorem lcP_of {α : Type} {i : Nat} {QP : List (D × OD) → Prop} (f k : α → D) (v : α → OD) : ∀ (xs : List α) (acc : List (D × OD)), (∀ x ∈ xs, ∀ R : D → Prop, R (k x) → tk (δ.set i (some (.sh (f x)))) R) → (∀ x ∈ xs, ∀ R : OD → Prop, R (v x) → tv (δ.set i (some (.sh (f x)))) R) →
    (∀ x ∈ xs, (dkT (k x)).isSome = true) → QP (acc ++ xs.map fun x => (k x, v x)) → lcP (gN i) dYes tk tv δ QP (xs.map f) acc
  | [], acc, _, _, _, q => by
    rw [List.map_nil, List.append_nil] at q
    exact q
  | x :: xs, acc, h1, h2, h3, q => by
    show tk (δ.set i (some (.sh (f x)))) fun y => tv (δ.set i (some (.sh (f x)))) fun z => (dkT y).isSome = true ∧ lcP (gN i) dYes tk tv δ QP (xs.map f) (acc ++ [(y, z)])
    refine h1 x List.mem_cons_self _ (h2 x List.mem_cons_self _ ⟨h3 x List.mem_cons_self, ?_⟩)
    refine lcP_of f k v xs _ (fun z hz => h1 z (List.mem_cons_of_mem _ hz)) (fun z hz => h2 z (List.mem_cons_of_mem _ hz)) (fun z hz => h3 z (List.mem_cons_of_mem _ hz)) ?_
    rw [List.append_assoc]
    exact q
end
end DL
/-! Dl48: d.get(k, z) with keys of any kind -/
namespace DL
open PySem PySem.Spec PyProof.Rows L2 Evl
def dDGet2K (r ry rx : DE) : DE := fun δ Q => r δ fun d => isDic d ∧ ry δ fun y => rx δ fun z => kg2D d y z Q
section
variable {X : Cx} {B : Bx} {o e f : Expr} {r ry rx : DE} {apos cpos : Pos}
theorem pd_dget2K (hu : X.A.units + 1 < cLine) (ho : PD X B o r) (he : PD X B e ry) (hf : PD X B f rx) (m : M2 X o "get" apos e f cpos) : PD X B (.Call (.Attribute o "get" apos) [e, f] [] cpos) (dDGet2K r ry rx) := by
  refine ⟨fun pins s σ H P I h => ?_⟩
  obtain ⟨H0, G, δ, Q, j, st, hr, k⟩ := h
  refine wpAny_Call_method m.base m.few m.line PySem.F.plainAttrs_dict PySem.F.slot_dict_get PySem.F.type_dict_get (thn (ho.run pins s σ H (fun v H1 => ∃ d G1, Gr X.K B G H G1 H1 ∧ Dat X.K B G1 v d ∧ isDic d ∧ ry δ fun y => rx δ fun z => kg2D d y z Q) I ⟨H0, G, δ, _, j, st, hr, fun d v G2 H2 q2 g2 d2 => ⟨d, G2, g2, d2, q2⟩⟩) fun u s1 ⟨x, H1, I1, r1, d, G1, g1, d1, i1, q1⟩ => ?_)
  have hD : ∃ a, x = .ref a ∧ IsD H1 a := by
    cases d1 with
    | dK g t => exact ⟨_, rfl, .inl ⟨_, .inr ⟨_, g1.j.ex _ _ g⟩⟩⟩
    | dT g t => exact ⟨_, rfl, .inr ⟨_, .inr ⟨_, g1.j.ex _ _ g⟩⟩⟩
    | _ => exact i1.elim
  obtain ⟨a, ex, dd0⟩ := hD
  subst ex
  obtain rfl : u = Value.ref a := r1
  obtain ⟨t1, t2, _⟩ := isD_at I1 dd0
  refine ⟨t1, t2, ?_⟩
  rw [m.trees]
  refine Calls.callWith_builtin rfl (Calls.evalArgs_plain (Calls.spliced_cons (thn (he.run pins s1 σ H1 (fun v H2 => ∃ y G2, Gr X.K B G1 H1 G2 H2 ∧ Dat X.K B G2 v y ∧ rx δ fun z => kg2D d y z Q) I1 ⟨H0, G1, δ, _, g1.j, st.gr g1, q1, fun y v G2 H2 q2 g2 d2 => ⟨y, G2, g2, d2, q2⟩⟩) fun iv s2 ⟨y, H2, I2, r2, yd, G2, g2, d2, q2⟩ =>
    Calls.spliced_cons (thn (hf.run pins s2 σ H2 (fun v H3 => ∃ z G3, Gr X.K B G2 H2 G3 H3 ∧ Dat X.K B G3 v z ∧ kg2D d yd z Q) I2 ⟨H0, G2, δ, _, g2.j, (st.gr g1).gr g2, q2, fun z v G3 H3 q3 g3 d3 => ⟨z, G3, g3, d3, q3⟩⟩) fun fv s3 ⟨z, H3, I3, r3, zd, G3, g3, d3, q3⟩ => Calls.spliced_nil ?_))))
  have g13 := g2.trans g3
  have gr3 := g1.trans g13
  cases d with
  | dic ks =>
    obtain ⟨hf, q⟩ := q3
    have dd1 := d1.mono g13.ex
    have dy := d2.mono g3.ex
    rcases inFit_or hf with ⟨kk, e1, e2⟩ | ⟨kk, e1, e2⟩
    · obtain ⟨a', kvs, va, ea, hd, rel, hs, dd⟩ := dic_K I3 g3.j.ex dd1 e2
      cases ea
      have ek := keyV dy e1
      subst ek
      refine call_meetsIn PySem.F.slot_dict_get dd.typeIs PySem.F.entry_dict_get (PySem.F.args_dict_get_3 _ _ _) (meets_dict_get_default (mixKind X.prog X.w) a (kV_is r2) hs fv) ⟨_, dd.mapOf, ?_⟩
      rw [emb_dk1 e1] at q
      rcases lookK_K hd kk with ⟨h1, h2⟩ | ⟨v, dv, h1, h2, h3⟩
      · rw [h2] at q
        refine ⟨z, H3, I3.tok _, ?_, k _ _ G3 H3 q gr3 d3⟩
        have := (rel.val kk).getD r3
        rw [h1] at this
        exact this
      · rw [h2] at q
        refine ⟨v, H3, I3.tok _, ?_, k _ _ G3 H3 q gr3 h3⟩
        have := (rel.val kk).getD r3
        rw [h1] at this
        exact this
    · obtain ⟨a', kvs, va, ea, hd, rel, hs, dd⟩ := dic_T I3 g3.j.ex dd1 e2
      cases ea
      obtain ⟨b, eb, hb⟩ := keyT dy e1
      subst eb
      cases (show iv = Value.ref b from r2)
      refine call_meetsIn PySem.F.slot_dict_get dd.typeIs PySem.F.entry_dict_get (PySem.F.args_dict_get_3 _ _ _) (meetsH_dict_get_default (tupleKind (mixKind X.prog X.w)) a b hs fv) ⟨tupleKind_room_in1 hu, kk, va, key_of I3.hok (g3.j.ex _ _ hb), dd, ?_⟩
      rw [emb_dkT e1] at q
      rcases lookK_T hd kk with ⟨h1, h2⟩ | ⟨v, dv, h1, h2, h3⟩
      · rw [h2] at q
        refine ⟨z, H3, I3.tok _, ?_, k _ _ G3 H3 q gr3 d3⟩
        have := (rel.val kk).getD r3
        rw [h1] at this
        exact this
      · rw [h2] at q
        refine ⟨v, H3, I3.tok _, ?_, k _ _ G3 H3 q gr3 h3⟩
        have := (rel.val kk).getD r3
        rw [h1] at this
        exact this
  | _ => exact i1.elim
end
section
variable {r ry rx : DE} {δ : DS} {Q : D → Prop} {ks : List (D × D)} {y z : D}
theorem z_dget2K : dDGet2K r ry rx δ Q = r δ fun d => isDic d ∧ ry δ fun y => rx δ fun z => kg2D d y z Q := propext Iff.rfl
theorem z_kg2D : kg2D (.dic ks) y z Q = (inFit ks y = true ∧ Q ((lookK ks y).getD z)) := propext Iff.rfl
end
end DL
/-! Dl49: a, b, c = what is a tuple or a list -/
namespace DL
open PySem PySem.Spec PyProof.Rows L2 Evl
def gU (n : Nat) (gs : DGs) : DG := fun d δ Q => match d with
  | .tup ds => gT n gs (.tup ds) δ Q
  | .lst ds => gL n gs (.lst ds) δ Q
  | _ => False
section
variable {X : Cx} {B : Bx} {es : List Expr} {pos : Pos}
theorem pgd_unp {k n : Nat} {gs : DGs} {is : List Nat} (hc : X.calm = true) (h : PGsD X B es is gs) (hn : (assignEach es X.env).length = n := by rfl) (hst : (assignEach es X.env).findIdx? (·.1) = none := by rfl) : PGD X B (.Tuple es k pos) is (gU n gs) :=
  ⟨fun pins s σ H v u R I r hw => by
    obtain ⟨H0, G, δ, d, Q, j, st, hd, hg, kk⟩ := hw
    cases d with
    | tup ds => exact (pgd_tup hc h hn hst).run pins s σ H v u R I r ⟨H0, G, δ, .tup ds, Q, j, st, hd, hg, kk⟩
    | lst ds => exact (pgd_unl hc h hn hst).run pins s σ H v u R I r ⟨H0, G, δ, .lst ds, Q, j, st, hd, hg, kk⟩
    | _ => exact hg.elim⟩
end
section
variable {n : Nat} {gs : DGs} {ds : List D} {δ : DS} {Q : DS → Prop}
theorem z_gUt : gU n gs (.tup ds) δ Q = gT n gs (.tup ds) δ Q := propext Iff.rfl
theorem z_gUl : gU n gs (.lst ds) δ Q = gL n gs (.lst ds) δ Q := propext Iff.rfl
end
end DL
/-! Dl50: sets of tuples of ints by comprehension -/
namespace L2
open PySem PySem.Spec PyProof.Rows
section
variable {X : Cx}
theorem setTO_get {pins : List (Addr × Obj)} {σ : St} {H : Hp} {s : Shared} {D : Addr} {L : List (Addr × List Int)} (I : Inv X pins σ H s) (h : H D = some (SetTO X.prog X.w D L)) : SetT0 X.prog X.w s.heap D L := (I.hok D _ h).1
/-- found.add(t), t a tuple of ints -/
theorem addT_ok {pins : List (Addr × Obj)} {σ : St} {H : Hp} {s : Shared} {E : Value → Shared → Prop} {D b : Addr} {L : List (Addr × List Int)} {k : List Int} {Q : Value → Shared → Prop} (hu : X.A.units + 1 < cLine) (I : Inv X pins σ H s) (hD : H D = some (SetTO X.prog X.w D L))
    (hL : ∀ p ∈ L, SqT X.K H p.1 (p.2.map V.int)) (hb : SqT X.K H b (k.map V.int)) (hf : L.length + 1 < 64)
    (h : ∀ s' L', (k ∈ L.map (·.2) → L' = L) → (k ∉ L.map (·.2) → L'.Perm ((b, k) :: L)) → Inv X pins σ (upd H D (SetTO X.prog X.w D L')) s' → Q .none s') : wpAny (model X.prog X.w) X.A (call (.builtin "set.add") [.ref D, .ref b]) Q E s := by
  obtain ⟨es, ep, t, R⟩ := (setTO_get I hD).full fun p hp => I.isT (hL p hp)
  have hx := I.isT hb
  have hu1 : X.A.in1.units < cLine := hu
  obtain ⟨o, ho, hex, hd⟩ := R.ob
  refine wpAny_call_entry F.slot_set_add ⟨o, ho, hex.1⟩ F.entry_set_add ?_ (F.args_set_add_2 _ _)
  unfold Builtin.«set.add» Builtin.Frozenset.oneOther
  simp only [List.isEmpty_nil, bind_assoc]
  unfold Builtin.Frozenset.addrOf setAdd
  refine wpAny_bind (wpAny_pure ?_)
  try dsimp only
  refine wpAny_bind (wpAny_pure ?_)
  try dsimp only
  refine wpAny_bind ?_
  refine wpAny_holding ?_
  refine wpAny_bind (wpAny_pyHash_tuple hu1 hx ?_)
  refine add_at (s := { s with toks := s.toks + (k.length + 1) }) R hx hu1 hf fun b' h' L' es' ep' t' hsb hS2 c1 c2 => ?_
  show wpAny _ _ (ret Value.none) _ _ _
  obtain ⟨o', ho', _⟩ := hS2.ob
  exact wpAny_pure ⟨_, rfl, h _ L' c1 c2 (I.write (e := D) (t' := s.toks + (k.length + 1)) (by rw [hD]; trivial) (.inl rfl) (fun b u hb hu => (hsb.2 b hb).trans hu) ⟨o', ho'⟩ (setTO_new hS2.t0))⟩
/-- what adding y to the set at D asks for, and leaves -/
def AddT (P : Program) (w : World) (K : PySem.W.Frag) (D : Addr) (y : V) (H : Hp) (N : Hp → Prop) : Prop := ∃ (b : Addr) (k : List Int) (L : List (Addr × List Int)), y = .ref b ∧ SqT K H b (k.map V.int) ∧ H D = some (SetTO P w D L) ∧ (∀ p ∈ L, SqT K H p.1 (p.2.map V.int)) ∧ L.length + 1 < 64 ∧
  ∀ L', (k ∈ L.map (·.2) → L' = L) → (k ∉ L.map (·.2) → L'.Perm ((b, k) :: L)) → N (upd H D (SetTO P w D L'))
/-- {e for t in xs if ..} of tuples of ints -/
def tScT (P : Program) (w : World) (K : PySem.W.Frag) (wi : TI) (g : TG) (tt : TT) (te : TE) (vs : List Nat) : TE := fun σ H Q => wi σ H fun J H1 => ∀ D, H1 D = none → ∃ W : Nat → Nat → Hp → Prop, (∃ m, W 0 m (upd H1 D (SetTO P w D []))) ∧ ∀ i m H, W i m H →
  (J.stop i H ∧ Q (.ref D) H) ∨ (J.go i H ∧ ∃ N : Hp → Prop, (∀ H', N H' → ∃ m', m' < m ∧ W (i + 1) m' H') ∧ ∀ x H', J.yld i H x H' → g x (wipe σ vs) H' fun σ2 H2 => wipe σ2 vs = wipe σ vs ∧ tt σ2 H2 fun b H3 => if b = true then te σ2 H3 fun y H4 => AddT P w K D y H4 N else N H3)
theorem setTO_fresh {P : Program} {w : World} {H : Hp} {h : Heap} {D : Addr} (ho : h.get? D = some { cls := .type "set", dict := none, data := .set #[] 0 (.fresh 0 0 (!w.params.followText "set-order")) }) : ObjOk P w H h D (SetTO P w D []) := setTO_new (setTR_fresh ho).t0
theorem pe_scT {elt tg iter : Expr} {ifs : List Expr} {scope : Scope} {own : List (PySem.Str × Nat)} {pos : Pos} {wi : TI} {g : TG} {tt : TT} {te : TE} (hu : X.A.units + 1 < cLine) (hc : X.calm = true) (hN : X.N.Nodup) (hi : PI X tg iter wi) (ok : BlkOk X.N X.env.scope scope own)
    (hg : ∀ (s : Shared) (H : Hp) (C : Addr) (cl : List (PySem.Str × Addr)) (fp : List Addr), PG (X.blk s H scope (compEnvC scope cl C X.env) fp) tg g) (ht : ∀ (s : Shared) (H : Hp) (C : Addr) (cl : List (PySem.Str × Addr)) (fp : List Addr), PTs (X.blk s H scope (compEnvC scope cl C X.env) fp) ifs tt)
    (he : ∀ (s : Shared) (H : Hp) (C : Addr) (cl : List (PySem.Str × Addr)) (fp : List Addr), PE (X.blk s H scope (compEnvC scope cl C X.env) fp) elt te) (hs : ∀ x, foldedSetIterable iter X.env x = pure x := by intro _; rfl) :
    PE X (.SetComp elt [⟨tg, iter, ifs, 0⟩] scope pos) (tScT X.prog X.w X.K wi g tt te (own.map (·.2))) := by
  refine ⟨fun pins s σ H Q I h => ?_⟩
  rw [PpSet.eval_SetComp]
  have free : ∀ y ∈ scope.names, y.2 = .free → ∃ c, X.env.cells.lookup y.1 = some c := fun y hy e => (ok.free y hy e).elim (fun k => I.ok.has _ (.inl k)) fun k => I.ok.has _ (.inr k)
  refine wpAny_comprehension_free rfl hs (closure_ok free) ok.kind (fun y hy e => by rw [ok.uniq y hy, e])
    (thn (hi.run pins s σ H _ I h) fun xv s1 hx => thn hx fun itv s2 h2 => ?_)
  obtain ⟨it, fp, tn, J, H2, e, I2, T, st2, f2, q⟩ := h2
  subst e
  refine PpSet.newSet_ok (newEnv_comp ?_)
  generalize hD : s2.heap.objs.size = D
  obtain ⟨W, ⟨m0, w0⟩, turn⟩ := q D (I2.hok.fresh (Nat.le_of_eq hD))
  generalize h3 : ({ s2 with heap := s2.heap.push { cls := .type "set", dict := none, data := .set #[] 0 (.fresh 0 0 (!X.w.params.followText "set-order")) } } : Shared) = s3
  have hp3 : s3.heap = s2.heap.push { cls := .type "set", dict := none, data := .set #[] 0 (.fresh 0 0 (!X.w.params.followText "set-order")) } := by rw [← h3]
  have I3 : Inv X pins σ (upd H2 D (SetTO X.prog X.w D [])) s3 := by
    rw [← h3]
    refine I2.laid (t' := s2.toks) (fun b o e => Heap.get?_push_of_some _ e) (Nat.le_of_eq hD) (setTO_fresh ?_)
    rw [← hD]
    exact Heap.get?_push_size _ rfl
  have small : ∀ b ∈ fp, b < s2.heap.objs.size := fun b hb => by
    obtain ⟨o, e, _⟩ := T.obj _ _ st2 b hb
    exact Heap.lt_size e
  have f3 : ∀ b ∈ fp, FpOk X pins (upd H2 D (SetTO X.prog X.w D [])) b ∧ b < s3.heap.objs.size := fun b hb => by
    have l := small b hb
    refine ⟨⟨?_, (f2 b hb).2⟩, by rw [hp3, Heap.size_push]; exact Nat.lt_succ_of_lt l⟩
    rw [upd_ne (by rw [← hD]; exact Nat.ne_of_lt l)]
    exact (f2 b hb).1
  have st3 : tn 0 s3.heap := T.keep _ _ _ st2 fun b _ o e => by rw [hp3]; exact Heap.get?_push_of_some _ e
  generalize hH3 : upd H2 D (SetTO X.prog X.w D []) = H3 at I3 w0 f3
  have I4 := block_start I3 ok hN f3
  generalize hcl : cellsFrom (s3.heap.objs.size + 1) scope.names (cloFrom X.env.cells scope.names []) = cl at I4 ⊢
  have pg := hg s3 H3 s3.heap.objs.size cl fp
  have pt := ht s3 H3 s3.heap.objs.size cl fp
  have pe := he s3 H3 s3.heap.objs.size cl fp
  have nfp : ∀ b ∈ fp, H3 b = none := fun b hb => (f3 b hb).1.1
  show codeAny _ _ (.compStart (.SetComp elt [⟨tg, iter, ifs, 0⟩] scope pos) 0 (.ref it) (.ref D) (compEnvC scope cl s3.heap.objs.size X.env)) (compPost (model X.prog X.w) X.A X.xe none (EP X pins σ Q) (.ref D) s3.heap.objs.size) { s3 with heap := pushCells (s3.heap.push { cls := .type "dict", data := .dict #[] }) scope.names }
  generalize hce : compEnvC scope cl s3.heap.objs.size X.env = ce at I4 pg pt pe ⊢
  have cL : ce.locals = s3.heap.objs.size := by subst hce; rfl
  generalize hs4 : ({ s3 with heap := pushCells (s3.heap.push { cls := .type "dict", data := .dict #[] }) scope.names } : Shared) = s4 at I4 ⊢
  have st4 : tn 0 s4.heap := T.keep _ _ _ st3 fun b _ o e => by rw [← hs4]; exact pushCells_keeps _ _ _ _ (Heap.get?_push_of_some _ e)
  have stat : ∀ {σ' : St} {H' : Hp} {s' : Shared}, Inv (X.blk s3 H3 scope ce fp) [] σ' H' s' → (∀ b ∈ fp, H' b = none) → ∀ b ∈ fp, FpOk (X.blk s3 H3 scope ce fp) [] H' b := fun {σ' H' s'} I' n b hb =>
    ⟨n b hb, (I'.ok.exf b hb).1, I'.ok.exfs b hb, .inl hb, fun x c e => (I'.ok.exf b hb).2 x c e, fun p hp => absurd (show p ∈ ([] : List (Addr × Obj)) ++ [] from hp) (by simp)⟩
  suffices loop : codeAny (model X.prog X.w) X.A (.compLoop (.SetComp elt [⟨tg, iter, ifs, 0⟩] scope pos) 0 (.ref it) (.ref D) ce) (compPost (model X.prog X.w) X.A X.xe none (EP X pins σ Q) (.ref D) s3.heap.objs.size) s4 from PpSet.codeAny_compStart_set loop (T.self X.A 0 _ _ _ st4 loop)
  refine PpSet.compLoopS_any (fun n s' => ∃ i H', Inv (X.blk s3 H3 scope ce fp) [] (wipe σ (own.map (·.2))) H' s' ∧ tn i s'.heap ∧ (∀ b ∈ fp, H' b = none) ∧ W i n H') ?_ m0 ⟨0, H3, I4, st4, nfp, w0⟩
  rintro n s5 ⟨i, H5, I5, st5, n5, w5⟩
  rcases turn i n H5 w5 with ⟨stop, qq⟩ | ⟨go, N, hN', step⟩
  · refine thnF (T.done (X.blk s3 H3 scope ce fp) rfl rfl rfl hc i [] s5 _ H5 (fun _ _ => False) I5 (stat I5 n5) st5 stop) fun r s6 ⟨hr, I6⟩ => ?_
    subst hr
    have I7 : Inv X pins σ H5 s6 := I3.call' (ch := fp) I6.os I6.base I6.hok I6.bare fun b hb => ⟨(f3 b hb).1.2.2.2.1, (f3 b hb).1.2.1, (f3 b hb).1.2.2.2.2.1, (f3 b hb).1.2.2.2.2.2⟩
    have nC : H5 s3.heap.objs.size = none := by
      have z : H5 ce.locals = none := I6.free
      rw [cL] at z
      exact z
    obtain ⟨m, hn, _⟩ := I6.loc
    have hn : s6.heap.Ns ce.locals m := hn
    rw [cL] at hn
    obtain ⟨f0, f1, f2, f3, f4, f5⟩ := I3.fpOk (Nat.le_refl _) nC
    exact ⟨m, hn, fun h'' sb => ⟨.ref D, H5, I7.turned (t' := s6.toks) (fun b o hb e => (sb.2 b hb).trans e) f0 f1 f3 f4 f5, rfl, qq⟩⟩
  · refine thnF (T.item (X.blk s3 H3 scope ce fp) rfl rfl rfl hc i [] s5 _ H5 (fun _ _ => False) I5 (stat I5 n5) st5 go) fun r s6 ⟨u, hr, h6⟩ => ?_
    subst hr
    refine thnF h6 fun _ s7 ⟨x, H7, I7, r7, y7, st7, n7⟩ => ?_
    have I7' := I7.pinned (stat I7 n7) (T.obj _ _ st7)
    refine thnF (pg.run _ s7 _ H7 x u _ I7' r7 (step x H7 y7)) fun _ s8 ⟨σ8, H8, I8, hw8, q8⟩ => ?_
    refine thnF (pt.run _ s8 σ8 H8 _ I8 q8) fun b s9 ⟨H9, I9, q9⟩ => ?_
    have fin : ∀ {s' : Shared} {H' : Hp}, Inv (X.blk s3 H3 scope ce fp) ([] ++ pinsAt fp s7.heap) σ8 H' s' → N H' → ∃ m, m < n ∧ ∃ i H', Inv (X.blk s3 H3 scope ce fp) [] (wipe σ (own.map (·.2))) H' s' ∧ tn i s'.heap ∧ (∀ b ∈ fp, H' b = none) ∧ W i m H' := fun {s' H'} I' nx => by
      obtain ⟨m', hm, w'⟩ := hN' H' nx
      have pin : ∀ b ∈ fp, ∀ o, s7.heap.get? b = some o → s'.heap.get? b = some o ∧ H' b = none := fun b hb o e =>
        let z := I'.pin (b, o) (List.mem_append_right _ (List.mem_append_right _ (mem_pinsAt hb e)))
        ⟨z.1, z.2.1⟩
      have hl : (wipe σ (own.map (·.2))).length = σ8.length := by rw [← hw8, wipe_length]
      refine ⟨m', hm, i + 1, H', (I'.unpinned (pins := [])).weak hl (fun j v e => ?_), T.keep _ _ _ st7 fun b hb o e => (pin b hb o e).1, fun b hb => ?_, w'⟩
      · rw [← hw8] at e
        exact (wipe_some e).1
      · obtain ⟨o, e, _⟩ := T.obj _ _ st7 b hb
        exact (pin b hb o e).2
    cases b with
    | false =>
      simp only [Bool.false_eq_true, if_false] at q9 ⊢
      exact fin I9 q9
    | true =>
      simp only [if_true] at q9 ⊢
      refine thnF (pe.run _ s9 σ8 H9 _ I9 q9) fun z s10 ⟨yv, H10, I10, r10, b, k, L, ey, hb, hD10, hL, hf, nx⟩ => ?_
      subst ey
      cases (show z = Value.ref b from r10)
      exact addT_ok (X := X.blk s3 H3 scope ce fp) hu I10 hD10 hL hb hf fun s11 L' c1 c2 I11 => fin I11 (nx L' c1 c2)
end
end L2
/-! Dl51: sorted({tuples of ints}), sorted(set(tuples of ints)) -/
namespace DL
open PySem PySem.Spec PyProof.Rows L2 Evl
def tupI (k : List Int) : D := .tup (k.map .int)
def intsD : List D → Option (List Int)
  | [] => some []
  | .int i :: ds => (intsD ds).map (i :: ·)
  | _ :: _ => none
def keyI : D → Option (List Int)
  | .tup ds => intsD ds
  | _ => none
def lexLt : List Int → List Int → Prop
  | [], _ => False
  | _ :: _, [] => False
  | x :: xs, y :: ys => x < y ∨ (x = y ∧ lexLt xs ys)
structure KeyOk (ks : List (List Int)) (d : Nat) : Prop where
  d1 : 1 ≤ d
  ok : ∀ k ∈ ks, k.length = d ∧ ∀ i ∈ k, 0 ≤ i ∧ i < 1000000
def sortK (ks : List (List Int)) (Q : List D → Prop) : Prop := (∃ d, KeyOk ks d) ∧ ∀ ys : List (List Int), ys.Pairwise lexLt → (∀ k, k ∈ ys ↔ k ∈ ks) → ys.length ≤ ks.length → Q (ys.map tupI)
def keyIq (y : D) (Q : List Int → Prop) : Prop := match keyI y with
  | some k => Q k
  | none => False
def scT (g : DG) (tt : DT) (te : DE) (δ : DS) (Q : List (List Int) → Prop) : List D → List (List Int) → Prop
  | [], acc => Q acc
  | d :: ds, acc => g d δ fun δ' => tt δ' fun b => if b = true then te δ' fun y => keyIq y fun k => scT g tt te δ Q ds (acc ++ [k]) else scT g tt te δ Q ds acc
def fSortSc (ri : DA) (g : DG) (tt : DT) (te : DE) (vs : List Nat) : DA := fun δ Q => ri δ fun ds => ds.length < 60 ∧ scT g tt te (wipeD δ vs) (fun ks => sortK ks Q) ds []
theorem intsD_emb : ∀ {ds : List D} {k : List Int}, intsD ds = some k → ds = k.map .int
  | [], _, h => by cases h; rfl
  | .int i :: ds, k, h => by
    unfold intsD at h
    obtain ⟨k', h1, h2⟩ := Option.map_eq_some_iff.mp h
    subst h2
    rw [intsD_emb h1]
    rfl
  | .non :: _, _, h => nomatch h
  | .bl _ :: _, _, h => nomatch h
  | .str _ :: _, _, h => nomatch h
  | .lst _ :: _, _, h => nomatch h
  | .tup _ :: _, _, h => nomatch h
  | .ktup _ :: _, _, h => nomatch h
  | .dic _ :: _, _, h => nomatch h
  | .obj _ _ :: _, _, h => nomatch h
  | .bag :: _, _, h => nomatch h
theorem ints_V {K : PySem.W.Frag} {B : Bx} {G : Hp} : ∀ {k : List Int} {vs : List V}, Dats K B G vs (k.map .int) → vs = k.map V.int
  | [], _, .nil => rfl
  | i :: k, _, .cons (.int _) t => by rw [ints_V t]; rfl
theorem key_V {K : PySem.W.Frag} {B : Bx} {G : Hp} {v : V} {y : D} {k : List Int} (h : Dat K B G v y) (e : keyI y = some k) : ∃ b, v = .ref b ∧ G b = some (.tup (k.map V.int)) := by
  cases h with
  | tup h1 h2 =>
    have := intsD_emb e
    subst this
    exact ⟨_, rfl, by rw [h1, ints_V h2]⟩
  | _ => cases e
theorem dat_tupI {K : PySem.W.Frag} {B : Bx} {G : Hp} {b : Addr} {k : List Int} (h : G b = some (.tup (k.map V.int))) : Dat K B G (.ref b) (tupI k) := by
  refine .tup h ?_
  clear h
  induction k with
  | nil => exact .nil
  | cons i k ih => exact .cons (.int i) ih
/-! the code of tuples and their order -/
theorem code_bd {B : Int} (hB : 0 < B) : ∀ k : List Int, TS.Bd B k → 0 ≤ TS.code B k ∧ TS.code B k < B ^ k.length
  | [], _ => by
    unfold TS.code
    rw [List.length_nil, Int.pow_zero]
    omega
  | x :: k, h => by
    have ih := code_bd hB k fun m hm => h m (List.mem_cons_of_mem _ hm)
    have hx := h x List.mem_cons_self
    have pp : 0 < B ^ k.length := Int.pow_pos hB
    show 0 ≤ x * B ^ k.length + TS.code B k ∧ x * B ^ k.length + TS.code B k < B ^ (k.length + 1)
    have e : B ^ (k.length + 1) = B ^ k.length * B := Int.pow_succ _ _
    rw [e]
    generalize B ^ k.length = p at *
    have h1 : 0 ≤ x * p := Int.mul_nonneg hx.1 (by omega)
    have h2 : x * p ≤ (B - 1) * p := Int.mul_le_mul_of_nonneg_right (by omega) (by omega)
    have h3 : (B - 1) * p = p * B - p := by rw [Int.sub_mul, Int.mul_comm B p, Int.one_mul]
    omega
theorem code_lex {B : Int} (hB : 0 < B) : ∀ (k l : List Int), k.length = l.length → TS.Bd B k → TS.Bd B l → TS.code B k ≤ TS.code B l → k ≠ l → lexLt k l
  | [], [], _, _, _, _, h => absurd rfl h
  | [], _ :: _, h, _, _, _, _ => nomatch h
  | _ :: _, [], h, _, _, _, _ => nomatch h
  | x :: k, y :: l, hl, hk, hm, hc, hn => by
    have hl2 : k.length = l.length := by simpa using hl
    have hk' : TS.Bd B k := fun m hm => hk m (List.mem_cons_of_mem _ hm)
    have hm' : TS.Bd B l := fun m h => hm m (List.mem_cons_of_mem _ h)
    have b1 := code_bd hB k hk'
    have b2 := code_bd hB l hm'
    have hc : x * B ^ k.length + TS.code B k ≤ y * B ^ l.length + TS.code B l := hc
    have pp : 0 < B ^ k.length := Int.pow_pos hB
    rw [← hl2] at hc b2
    by_cases e : x = y
    · subst e
      refine .inr ⟨rfl, code_lex hB k l hl2 hk' hm' (by omega) fun z => hn (by rw [z])⟩
    · refine .inl ?_
      generalize B ^ k.length = p at *
      by_cases h : x < y
      · exact h
      · exfalso
        have h1 : (y + 1) * p ≤ x * p := Int.mul_le_mul_of_nonneg_right (by omega) (by omega)
        rw [Int.add_mul, Int.one_mul] at h1
        omega
theorem setTO_mu {P : Program} {w : World} {H : Hp} {p : Addr} {L : List (Addr × List Int)} (h : H p = some (SetTO P w p L)) : Mu H p := ⟨_, h, fun _ z => by cases z⟩
section
variable {X : Cx} {B : Bx}
theorem sortT_fin {pr : Program} {w : World} {H0 H2 G2 G0 : Hp} {p : Addr} {L : List (Addr × List Int)} {ks : List (List Int)} {P : VK} {Q : List D → Prop} (k : ∀ ds p vs G2 H2, Q ds → Gr X.K B G0 H0 G2 H2 → H0 p = none → G2 p = none → H2 p = some (.lst vs) → Dats X.K B G2 vs ds → P (.ref p) H2)
    (g : Gr X.K B G0 H0 G2 H2) (hp : H2 p = some (SetTO pr w p L)) (hL : ∀ q ∈ L, G2 q.1 = some (.tup (q.2.map V.int))) (hm : ∀ z, z ∈ L.map (·.2) ↔ z ∈ ks) (q : sortK ks Q) : rSortedT X.K pr w [.ref p] H2 P := by
  obtain ⟨⟨d, d1, hk⟩, q⟩ := q
  have kk : ∀ z ∈ L, z.2.length = d ∧ TS.Bd 1000000 z.2 := fun z hz => hk z.2 ((hm z.2).mp (List.mem_map_of_mem hz))
  refine ⟨p, L, d, 1000000, rfl, hp, fun z hz => tx g.j.ex (hL z hz), d1, kk, fun L' r pm nd l64 pw hr => ?_⟩
  have hd : Dats X.K B G2 (L'.map fun z => V.ref z.1) ((L'.map (·.2)).map tupI) := by
    have : ∀ z ∈ L', G2 z.1 = some (.tup (z.2.map V.int)) := fun z hz => hL z (pm.mem_iff.mp hz)
    clear pm nd pw l64
    induction L' with
    | nil => exact .nil
    | cons z L' ih => exact .cons (dat_tupI (this z List.mem_cons_self)) (ih fun y hy => this y (List.mem_cons_of_mem _ hy))
  refine pf_new k g hr hd (q _ ?_ (fun z => ((pm.map (·.2)).mem_iff).trans (hm z)) ?_)
  · refine List.pairwise_map.mpr ?_
    have nd' : L'.Pairwise fun a b => a.2 ≠ b.2 := List.pairwise_map.mp nd
    refine List.Pairwise.imp_of_mem (fun {a b} ha hb h => ?_) (pw.and nd')
    have ka := kk a (pm.mem_iff.mp ha)
    have kb := kk b (pm.mem_iff.mp hb)
    exact code_lex (by decide) a.2 b.2 (ka.1.trans kb.1.symm) ka.2 kb.2 h.1 h.2
  · exact List.Nodup.length_le_of_subset nd fun z hz => (hm z).mp (((pm.map (·.2)).mem_iff).mp hz)
theorem pf_sortSc {elt tg iter : Expr} {ifs : List Expr} {scope : Scope} {own : List (Str × Nat)} {cpos p pos : Pos} {ri : DA} {g : DG} {is : List Nat} {tt : DT} {te : DE} (hu : X.A.units + 1 < cLine) (hc : X.calm = true) (hN : X.N.Nodup) (hgl : Gl X "sorted") (hm : X.mg "sorted" = none) (hi : PID X B tg iter ri) (ok : BlkOk X.N X.env.scope scope own) (hv : ∀ i ∈ is, i ∈ own.map (·.2))
    (hg : ∀ (s : Shared) (H : Hp) (C : Addr) (cl : List (Str × Addr)) (fp : List Addr), PGD (X.blk s H scope (compEnvC scope cl C X.env) fp) B tg is g) (ht : ∀ (s : Shared) (H : Hp) (C : Addr) (cl : List (Str × Addr)) (fp : List Addr), PTsD (X.blk s H scope (compEnvC scope cl C X.env) fp) B ifs tt)
    (he : ∀ (s : Shared) (H : Hp) (C : Addr) (cl : List (Str × Addr)) (fp : List Addr), PD (X.blk s H scope (compEnvC scope cl C X.env) fp) B elt te) (hs : ∀ x, foldedSetIterable iter X.env x = pure x := by intro _; rfl)
    (hs2 : starEach [.SetComp elt [⟨tg, iter, ifs, 0⟩] scope cpos] X.env = (false, eval (.SetComp elt [⟨tg, iter, ifs, 0⟩] scope cpos) X.env) :: starEach [] X.env := by rfl) (hpl : (backTo pos (starEach [] X.env)).any (·.1) = false := by rfl) :
    PF X B (.Call (.Name "sorted" p) [.SetComp elt [⟨tg, iter, ifs, 0⟩] scope cpos] [] pos) (fSortSc ri g tt te (own.map (·.2))) :=
  pe_mono (pe_callB (cr_sortedT hc) hgl hm (by decide +kernel) (pa_cons (pe_scT (wi := liftI X.K B ri) (g := liftG X.K B is g) (tt := liftT X.K B tt) (te := liftE X.K B te) hu hc hN hi ok hg ht he hs) pa_nil hs2) (by decide) (by decide) hs2 hpl) fun σ H P q => by
  obtain ⟨H0, G, δ, Q, j, st, hr, k⟩ := q
  refine ⟨H0, G, δ, _, j, st, hr, fun ds J G2 H2 q2 g2 it p hp => ?_⟩
  obtain ⟨hz, q2⟩ := q2
  have nb : p ≠ B.b := Gr.neB g2.j hp
  have gp : G2 p = none := fresh_back g2.j.ex hp
  have st2 := (st.gr g2)
  refine ⟨fun i m H' => i + m = ds.length ∧ ∃ G' L ks, Gr X.K B G2 H2 G' H' ∧ G' p = none ∧ H' p = some (SetTO X.prog X.w p L) ∧ (∀ q ∈ L, G' q.1 = some (.tup (q.2.map V.int))) ∧ (∀ z, z ∈ L.map (·.2) ↔ z ∈ ks) ∧ L.length ≤ i ∧ L.length ≤ ks.length ∧ scT g tt te (wipeD δ (own.map (·.2))) (fun ks => sortK ks Q) (ds.drop i) ks,
    ⟨ds.length, by omega, G2, [], [], Gr.new0 g2.j hp, gp, upd_same, fun z hz => (nomatch hz), fun z => Iff.rfl, Nat.le_refl _, Nat.le_refl _, q2⟩, fun i m H' hw => ?_⟩
  obtain ⟨em, G', L, ks, gr, gp', hp', hL, hmm, hl, hl2, hf⟩ := hw
  by_cases hlt : i < ds.length
  · refine .inr ⟨it.go i G' H' gr.ex gr.j hlt, fun H1 => ∃ G1 L ks, Gr X.K B G2 H2 G1 H1 ∧ G1 p = none ∧ H1 p = some (SetTO X.prog X.w p L) ∧ (∀ q ∈ L, G1 q.1 = some (.tup (q.2.map V.int))) ∧ (∀ z, z ∈ L.map (·.2) ↔ z ∈ ks) ∧ L.length ≤ i + 1 ∧ L.length ≤ ks.length ∧ scT g tt te (wipeD δ (own.map (·.2))) (fun ks => sortK ks Q) (ds.drop (i + 1)) ks, fun H1 hn => ⟨m - 1, by omega, by omega, hn⟩, fun x H1 hy => ?_⟩
    have hd : ds[i]? = some ds[i] := List.getElem?_eq_getElem hlt
    obtain ⟨G3, g3, hx⟩ := it.yld i G' H' x H1 _ gr.ex gr.j hy hd
    rw [List.drop_eq_getElem_cons hlt] at hf
    have hpn : Mu H' p := setTO_mu hp'
    have hf : g ds[i] (wipeD δ (own.map (·.2))) (fun δ' => tt δ' fun b => if b = true then te δ' fun y => keyIq y fun k => scT g tt te (wipeD δ (own.map (·.2))) (fun ks => sortK ks Q) (ds.drop (i + 1)) (ks ++ [k]) else scT g tt te (wipeD δ (own.map (·.2))) (fun ks => sortK ks Q) (ds.drop (i + 1)) ks) := hf
    refine ⟨H0, G3, wipeD δ (own.map (·.2)), ds[i], _, g3.j, (st2.gr (gr.trans g3)).wipe (own.map (·.2)), hx, hf, fun σ2 δ2 q3 s3 u3 => ?_⟩
    refine ⟨by rw [u3.wipe hv, wipe_wipe], H0, G3, δ2, _, g3.j, s3, q3, fun b G4 H4 q4 g4 => ?_⟩
    have g34 := g3.trans g4
    cases b with
    | false =>
      exact ⟨G4, L, ks, gr.trans g34, by rw [g34.old p hpn]; exact gp', g34.keep p _ nb hp', fun z hz => g34.ex _ _ (hL z hz), hmm, Nat.le_succ_of_le hl, hl2, q4⟩
    | true =>
      refine ⟨H0, G4, δ2, _, g4.j, s3.gr g4, q4, fun y u G5 H5 q5 g5 h5 => ?_⟩
      have g35 := g34.trans g5
      have q5 : (match keyI y with | some k => scT g tt te (wipeD δ (own.map (·.2))) (fun ks => sortK ks Q) (ds.drop (i + 1)) (ks ++ [k]) | none => False) := q5
      cases ek : keyI y with
      | none => rw [ek] at q5; exact q5.elim
      | some kk =>
        rw [ek] at q5
        obtain ⟨b, eu, eb⟩ := key_V h5 ek
        subst eu
        have hp5 : H5 p = some (SetTO X.prog X.w p L) := g35.keep p _ nb hp'
        have hL5 : ∀ z ∈ L, G5 z.1 = some (.tup (z.2.map V.int)) := fun z hz => g35.ex _ _ (hL z hz)
        refine ⟨b, kk, L, rfl, tx g5.j.ex eb, hp5, fun z hz => tx g5.j.ex (hL5 z hz), by omega, fun L' c1 c2 => ?_⟩
        have gp5 : G5 p = none := by rw [g35.old p hpn]; exact gp'
        have g6 : Gr X.K B G2 H2 G5 (upd H5 p (SetTO X.prog X.w p L')) := (gr.trans g35).own hp gp5 nb
        by_cases c : kk ∈ L.map (·.2)
        · have e := c1 c
          subst e
          refine ⟨G5, L', ks ++ [kk], g6, gp5, upd_same, hL5, fun z => ?_, Nat.le_succ_of_le hl, by rw [List.length_append]; exact Nat.le_add_right_of_le hl2, q5⟩
          rw [List.mem_append, List.mem_singleton, ← hmm z]
          exact ⟨.inl, fun h => h.elim id fun e => e ▸ c⟩
        · have pm := c2 c
          refine ⟨G5, L', ks ++ [kk], g6, gp5, upd_same, fun z hz => ?_, fun z => ?_, by rw [pm.length_eq, List.length_cons]; omega, by rw [pm.length_eq, List.length_cons, List.length_append]; exact Nat.succ_le_succ hl2, q5⟩
          · rcases List.mem_cons.mp (pm.mem_iff.mp hz) with e | hz
            · subst e; exact eb
            · exact hL5 z hz
          · rw [(pm.map (·.2)).mem_iff, List.map_cons, List.mem_cons, List.mem_append, List.mem_singleton, ← hmm z]
            exact or_comm
  · have e : i = ds.length := by omega
    subst e
    rw [List.drop_length] at hf
    refine .inl ⟨it.stop _ G' H' gr.ex gr.j (Nat.le_refl _), ?_⟩
    exact sortT_fin k (g2.trans gr) hp' hL hmm hf
def keysI : List D → Option (List (List Int))
  | [] => some []
  | d :: ds => match keyI d, keysI ds with
    | some k, some ks => some (k :: ks)
    | _, _ => none
def setLq (x : D) (Q : List D → Prop) : Prop := match x with
  | .lst xs => match keysI xs with
    | some ks => ks.length < 64 ∧ sortK ks Q
    | none => False
  | _ => False
def fSortSetT (ra : DE) : DA := fun δ Q => ra δ fun x => setLq x Q
theorem keysI_V {K : PySem.W.Frag} {G : Hp} : ∀ {xs : List D} {vs : List V} {ks : List (List Int)}, Dats K B G vs xs → keysI xs = some ks → ∃ as : List (Addr × List Int), vs = as.map (fun q => V.ref q.1) ∧ as.map (·.2) = ks ∧ ∀ q ∈ as, G q.1 = some (.tup (q.2.map V.int))
  | [], _, _, .nil, e => by cases e; exact ⟨[], rfl, rfl, fun q hq => nomatch hq⟩
  | d :: ds, _, ks, .cons h t, e => by
    have e : (match keyI d, keysI ds with | some k, some ks => some (k :: ks) | _, _ => none) = some ks := e
    cases e1 : keyI d with
    | none => rw [e1] at e; cases e
    | some k =>
      cases e2 : keysI ds with
      | none => rw [e1, e2] at e; cases e
      | some ks' =>
        rw [e1, e2] at e
        cases e
        obtain ⟨b, rfl, hb⟩ := key_V h e1
        obtain ⟨as, rfl, h2, h3⟩ := keysI_V t e2
        exact ⟨(b, k) :: as, rfl, by rw [List.map_cons, h2], fun q hq => (List.mem_cons.mp hq).elim (fun z => by subst z; exact hb) (h3 q)⟩
theorem keysI_map {α : Type} (f : α → List Int) : ∀ xs : List α, keysI (xs.map fun x => tupI (f x)) = some (xs.map f)
  | [] => rfl
  | x :: xs => by
    have e : keyI (tupI (f x)) = some (f x) := by
      show intsD ((f x).map .int) = some (f x)
      generalize f x = k
      induction k with
      | nil => rfl
      | cons i k ih => show (intsD (k.map .int)).map (i :: ·) = _; rw [ih]; rfl
    show (match keyI (tupI (f x)), keysI (xs.map fun x => tupI (f x)) with | some k, some ks => some (k :: ks) | _, _ => none) = _
    rw [e, keysI_map f xs]
    rfl
theorem pf_sortSetT {e : Expr} {ra : DE} {p p2 q pos : Pos} (hu : X.A.units + 64 < cLine) (hc : X.calm = true) (hg : Gl X "sorted") (hm : X.mg "sorted" = none) (hg2 : Gl X "set") (hm2 : X.mg "set" = none) (ha : PD X B e ra) (hs : starEach [e] X.env = (false, eval e X.env) :: starEach [] X.env := by rfl) (hpl : (backTo q (starEach [] X.env)).any (·.1) = false := by rfl)
    (hs2 : starEach [.Call (.Name "set" p2) [e] [] q] X.env = (false, eval (.Call (.Name "set" p2) [e] [] q) X.env) :: starEach [] X.env := by rfl) (hpl2 : (backTo pos (starEach [] X.env)).any (·.1) = false := by rfl) :
    PF X B (.Call (.Name "sorted" p) [.Call (.Name "set" p2) [e] [] q] [] pos) (fSortSetT ra) :=
  pe_mono (pe_callB (cr_sortedT hc) hg hm (by decide +kernel) (pa_cons (pe_callTy (cr_setOfT hc hu) hg2 hm2 (by decide +kernel) (pa_cons ha pa_nil hs) (by decide) (by decide) hs hpl) pa_nil hs2) (by decide) (by decide) hs2 hpl2) fun σ H P q => by
  obtain ⟨H0, G, δ, Q, j, st, hr, k⟩ := q
  refine ⟨H0, G, δ, _, j, st, hr, fun x v G2 H2 q2 g2 h2 => ?_⟩
  cases h2 with
  | @lst a vs xs h3 h4 =>
    have q2 : (match keysI xs with | some ks => ks.length < 64 ∧ sortK ks Q | none => False) := q2
    cases ek : keysI xs with
    | none => rw [ek] at q2; exact q2.elim
    | some ks =>
      rw [ek] at q2
      obtain ⟨hz, q2⟩ := q2
      obtain ⟨as, rfl, e2, h5⟩ := keysI_V h4 ek
      subst e2
      rw [List.length_map] at hz
      refine ⟨_, as, rfl, sq_of (g2.j.ex _ _ h3), fun z hz => tx g2.j.ex (h5 z hz), hz, fun s L hs c1 c2 => ?_⟩
      refine sortT_fin k (g2.trans (Gr.new0 g2.j hs)) upd_same (fun z hz => h5 z (c1 z hz)) (fun z => ⟨fun h => ?_, fun h => ?_⟩) q2
      · obtain ⟨y, hy, rfl⟩ := List.mem_map.mp h
        exact List.mem_map_of_mem (c1 y hy)
      · obtain ⟨y, hy, rfl⟩ := List.mem_map.mp h
        exact c2 y hy
  | _ => exact q2.elim
end
theorem room_u64 {k : Nat} {A : Around} (h : Room k A) : A.units + 64 < cLine := by have := h.un; omega
section
variable {ri : DA} {g : DG} {tt : DT} {te ra : DE} {vs : List Nat} {δ : DS} {Q : List D → Prop} {Qk : List (List Int) → Prop} {xs : List D} {d : D} {ds : List D} {acc : List (List Int)} {k : List Int}
theorem z_sortSc : fSortSc ri g tt te vs δ Q = ri δ fun ds => ds.length < 60 ∧ scT g tt te (wipeD δ vs) (fun ks => sortK ks Q) ds [] := propext Iff.rfl
theorem z_sortSetT : fSortSetT ra δ Q = ra δ fun x => setLq x Q := propext Iff.rfl
theorem z_setLq (h : keysI xs = some acc) : setLq (.lst xs) Q = (acc.length < 64 ∧ sortK acc Q) := by
  show (match keysI xs with | some ks => ks.length < 64 ∧ sortK ks Q | none => False) = _
  rw [h]
theorem scT_c : scT g tt te δ Qk (d :: ds) acc = g d δ fun δ' => tt δ' fun b => if b = true then te δ' fun y => keyIq y fun k => scT g tt te δ Qk ds (acc ++ [k]) else scT g tt te δ Qk ds acc := propext Iff.rfl
theorem scT_n : scT g tt te δ Qk [] acc = Qk acc := propext Iff.rfl
theorem z_keyIq {Qk' : List Int → Prop} (h : keyI d = some k) : keyIq d Qk' = Qk' k := by
  show (match keyI d with | some k => Qk' k | none => False) = _
  rw [h]
end
theorem lex_irr : ∀ {k : List Int}, ¬ lexLt k k
  | [], h => h
  | x :: k, h => h.elim (fun z => Int.lt_irrefl _ z) fun z => lex_irr z.2
theorem lex_asym : ∀ {k l : List Int}, lexLt k l → lexLt l k → False
  | [], _, h, _ => h
  | _ :: _, [], h, _ => h
  | x :: k, y :: l, h, h2 => by
    rcases h with h | ⟨e, h⟩ <;> rcases h2 with h2 | ⟨e2, h2⟩
    · omega
    · omega
    · omega
    · exact lex_asym h h2
theorem lex_uniq : ∀ {a b : List (List Int)}, a.Pairwise lexLt → b.Pairwise lexLt → (∀ x, x ∈ a ↔ x ∈ b) → a = b
  | [], [], _, _, _ => rfl
  | [], y :: b, _, _, h => absurd ((h y).mpr List.mem_cons_self) (by simp)
  | x :: a, [], _, _, h => absurd ((h x).mp List.mem_cons_self) (by simp)
  | x :: a, y :: b, ha, hb, h => by
    have pa := List.pairwise_cons.mp ha
    have pb := List.pairwise_cons.mp hb
    have e : x = y := by
      rcases List.mem_cons.mp ((h x).mp List.mem_cons_self) with e | e
      · exact e
      · rcases List.mem_cons.mp ((h y).mpr List.mem_cons_self) with e2 | e2
        · exact e2.symm
        · exact (lex_asym (pa.1 y e2) (pb.1 x e)).elim
    subst e
    have : a = b := lex_uniq pa.2 pb.2 fun z => by
      constructor
      · intro hz
        rcases List.mem_cons.mp ((h z).mp (List.mem_cons_of_mem _ hz)) with e | e
        · subst e; exact (lex_irr (pa.1 _ hz)).elim
        · exact e
      · intro hz
        rcases List.mem_cons.mp ((h z).mpr (List.mem_cons_of_mem _ hz)) with e | e
        · subst e; exact (lex_irr (pb.1 _ hz)).elim
        · exact e
    rw [this]
end DL
/-! Dl52: x.update(e), x one's own dict with tuple keys that is not empty, e a dict with tuple keys -/
namespace DL
open PySem PySem.Spec PyProof.Rows L2 Evl
def updT (kvs lvs : List (List Key × V)) : List (List Key × V) := lvs.foldl (fun acc z => putK acc z.1 z.2) kvs
theorem KT.upd {H : Hp} : ∀ {lvs : List (List Key × V)} {la : XT} {kvs : List (List Key × V)} {xa : XT}, KT H lvs la → KT H kvs xa → KT H (updT kvs lvs) (storedAllH xa la)
  | _, _, _, _, .nil, h => h
  | _, _, _, _, .cons (a := z) (b := y) ⟨h1, h2, h3⟩ t, h => by
    have := KT.upd t (h.put z.1 h2 h3)
    obtain ⟨y1, y2, y3⟩ := y
    cases h1
    exact this
theorem len_updT : ∀ (lvs kvs : List (List Key × V)), (updT kvs lvs).length ≤ kvs.length + lvs.length
  | [], _ => Nat.le_refl _
  | z :: r, kvs => by
    have h1 := len_updT r (putK kvs z.1 z.2)
    have h2 := length_putK kvs z.1 z.2
    show (updT (putK kvs z.1 z.2) r).length ≤ _
    rw [List.length_cons]
    omega
def updQ (t : Bool) (ks : List (D × OD)) (d : D) (K : List (D × OD) → Prop) : Prop := match d with
  | .dic ls => (t = true ∧ ks ≠ [] ∧ (ls.all fun z => (dkT z.1).isSome) = true ∧ ks.length + ls.length ≤ sizeLine) ∧ K (ls.foldl (fun acc z => putO acc z.1 (.sh z.2)) ks)
  | _ => False
def dUpdR (ρ : DR) (r : DE) : DTS := fun W δ => ρ δ fun i π => dicAt δ i π fun t ks => r δ fun d => updQ t ks d fun ks' => W.nx (putS δ i π (.dic t ks'))
section
variable {K : PySem.W.Frag} {B : Bx} {G H : Hp}
theorem OwnT.put1 {k : List Key} {v : V} {d : D} (hd : Dat K B G v d) {vs : List (List Key × V)} {xs : List (D × OD)} {f : List Addr} (h : OwnT K B G H vs xs f) (nd : f.Nodup) : ∃ f', OwnT K B G H (putK vs k v) (putO xs (embT k) (.sh d)) f' ∧ f'.Nodup ∧ ∀ q ∈ f', q ∈ f := by
  unfold putK putO
  rw [h.any]
  by_cases c : (xs.any fun z => keqD z.1 (embT k)) = true
  · rw [if_pos c, if_pos c]
    exact OwnT.repl hd h nd fun q _ => ⟨rfl, rfl⟩
  · rw [if_neg c, if_neg c]
    exact ⟨f ++ [], OwnT.snoc (.sh hd) h, by rw [List.append_nil]; exact nd, fun q hq => by rw [List.append_nil] at hq; exact hq⟩
theorem OwnT.upd : ∀ {lvs : List (List Key × V)} {ls : List (D × D)}, DatT K B G lvs ls → ∀ {vs : List (List Key × V)} {xs : List (D × OD)} {f : List Addr}, OwnT K B G H vs xs f → f.Nodup → ∃ f', OwnT K B G H (updT vs lvs) (ls.foldl (fun acc z => putO acc z.1 (.sh z.2)) xs) f' ∧ f'.Nodup ∧ ∀ q ∈ f', q ∈ f
  | _, _, .nil, _, _, f, h, nd => ⟨f, h, nd, fun _ z => z⟩
  | _, _, .cons hd t, _, _, f, h, nd => by
    obtain ⟨f1, h1, n1, s1⟩ := OwnT.put1 hd h nd
    obtain ⟨f2, h2, n2, s2⟩ := OwnT.upd t h1 n1
    exact ⟨f2, h2, n2, fun q hq => s1 q (s2 q hq)⟩
end
def tDUpd (K : PySem.W.Frag) (B : Bx) (to te : TE) : TE := fun σ H Q => to σ H fun x H1 => ∃ p, x = .ref p ∧ IsD H1 p ∧ te σ H1 fun u H2 => ∃ (G : Hp) (ls : List (D × D)) (kvs : List (List Key × V)), Jn K B G H2 ∧ Dat K B G u (.dic ls) ∧ (ls.all fun z => (dkT z.1).isSome) = true ∧ H2 p = some (.dT kvs) ∧ G p = none ∧ kvs ≠ [] ∧ kvs.length + ls.length ≤ sizeLine ∧
  ∀ lvs, DatT K B G lvs ls → Q .non (upd H2 p (.dT (updT kvs lvs)))
section
variable {X : Cx} {B : Bx} {o e : Expr} {ρ : DR} {r : DE} {to te : TE} {pos apos cpos : Pos}
theorem pe_dupd (hu : X.A.units + 1 < cLine) (ho : PE X o to) (he : PE X e te) (m : M1 X o "update" apos e cpos) : PE X (.Call (.Attribute o "update" apos) [e] [] cpos) (tDUpd X.K B to te) := by
  refine ⟨fun pins s σ H Q I h => ?_⟩
  refine wpAny_Call_method m.base m.few m.line PySem.F.plainAttrs_dict PySem.F.slot_dict_update PySem.F.type_dict_update (thn (ho.run pins s σ H _ I h) fun u s1 ⟨x, H1, I1, rx, p, ex, d, q1⟩ => ?_)
  subst ex
  obtain rfl : u = Value.ref p := rx
  obtain ⟨t1, t2, _⟩ := isD_at I1 d
  refine ⟨t1, t2, ?_⟩
  rw [m.trees]
  refine Calls.callWith_builtin rfl (Calls.evalArgs_plain (Calls.spliced_cons (thn (he.run pins s1 σ H1 _ I1 q1) fun iv s2 ⟨y, H2, I2, ry, G, ls, kvs, j, hy, hk, hp, gp, hn, hz, q2⟩ => Calls.spliced_nil ?_)))
  obtain ⟨a, lvs, la, ea, hd, rel, hs, dd⟩ := dic_T I2 j.ex hy hk
  subst ea
  cases (show iv = Value.ref a from ry)
  have hne : p ≠ a := fun z => by
    subst z
    cases hy with
    | dK g _ => rw [gp] at g; cases g
    | dT g _ => rw [gp] at g; cases g
  obtain ⟨z, hdp, xs, relp, ddp⟩ := dt_of I2.hok hp
  have e1 : kvs.length = xs.length := Paired.length relp
  have e2 : ls.length = la.length := by rw [← hd.len]; exact Paired.length rel
  have xne : xs ≠ [] := fun z => hn (List.eq_nil_of_length_eq_zero (by rw [e1, z]; rfl))
  refine call_update_dictH (tupleKind_room_in1 hu) hne hs ddp dd (.inl xne) (by omega) fun h' dd' _ sb => ?_
  have hl : (updT kvs lvs).length ≤ sizeLine := by
    have := len_updT lvs kvs
    have := hd.len
    omega
  obtain ⟨q, es, ep, hq, h2, h3, h4, _, h5⟩ := dd'
  refine ⟨.non, L2.upd H2 p (.dT (updT kvs lvs)), d_write (t' := s2.toks) I2 (by rw [hp]; exact True.intro) sb ⟨q, hq⟩ ⟨hl, hdp, _, (KT.upd rel relp).keeps fun c ys ec => ?_, q, es, ep, hq, h2, h3, h4, h5⟩, rfl, q2 lvs hd⟩
  rw [upd_ne (ne_of ec hp (fun z => nomatch z))]
  exact ec
theorem psd_updR (hu : X.A.units + 1 < cLine) (ho : PR X B o ρ) (he : PD X B e r) (m : M1 X o "update" apos e cpos) (hsw : swapsWith (.Call (.Attribute o "update" apos) [e] [] cpos) none pos.line X.env = pure false := by rfl) :
    PSD X B (.Expr (.Call (.Attribute o "update" apos) [e] [] cpos) pos) (dUpdR ρ r) := ps_mono (ps_expr (pe_dupd (B := B) hu ho he m) hsw) fun E σ H q => by
  obtain ⟨G0, H0, G, δ, W, g0, st, h, k⟩ := q
  refine ⟨H0, G, δ, _, g0.j, st, h, fun i π v0 v G2 H2 q2 g2 h0 hv => ?_⟩
  obtain ⟨t, ks, hx, q2⟩ := dicAt_at q2
  obtain ⟨_, a1, _⟩ := (st.gr g2).place hx h0 hv (Gr.refl g2.j)
  have hd : ∃ p, v = .ref p ∧ IsD H2 p := by
    cases a1 with
    | dK b1 _ _ => exact ⟨_, rfl, .inl ⟨_, .inl b1⟩⟩
    | dT b1 _ _ => exact ⟨_, rfl, .inr ⟨_, .inl b1⟩⟩
  obtain ⟨p, ev, hd⟩ := hd
  subst ev
  refine ⟨p, rfl, hd, H0, G2, δ, _, g2.j, st.gr g2, q2, fun d u G3 H3 q3 g3 h3 => ?_⟩
  obtain ⟨fs, c1, c2, c3, _, c5⟩ := (st.gr g2).place hx h0 hv g3
  cases d with
  | dic ls =>
    obtain ⟨⟨tt, kn, lk, hz⟩, q3⟩ := q3
    subst tt
    cases c1 with
    | @dT _ kvs _ f b1 b2 b3 =>
      have hp := c3 p List.mem_cons_self
      have np := (List.nodup_cons.mp c2).1
      have nf := (List.nodup_cons.mp c2).2
      have kl : kvs.length = ks.length := b3.len
      refine ⟨G3, ls, kvs, g3.j, h3, lk, b1, b2, fun z => kn (List.eq_nil_of_length_eq_zero (by rw [← kl, z]; rfl)), by omega, fun lvs hl => ?_⟩
      have b4 : OwnT X.K B G3 (upd H3 p (.dT (updT kvs lvs))) kvs ks f := b3.keep (Ex.refl _) fun q hq => ⟨upd_ne fun z => by subst z; exact np hq, rfl⟩
      obtain ⟨f', d1, d2, d3⟩ := OwnT.upd hl b4 nf
      exact k.nx _ _ _ _ q3 (((g0.trans g2).trans g3).own hp.1 b2 hp.2) (g2.ex.trans g3.ex) (c5 p _ _ (p :: f') List.mem_cons_self (.dT upd_same b2 d1) (List.nodup_cons.mpr ⟨fun z => np (d3 _ z), d2⟩) fun q hq => (List.mem_cons.mp hq).elim (fun z => by subst z; exact List.mem_cons_self) fun z => List.mem_cons_of_mem _ (d3 q z))
  | _ => exact q3.elim
end
section
variable {ρ : DR} {r : DE} {W : DEnds} {δ : DS} {t : Bool} {ks : List (D × OD)} {ls : List (D × D)} {Kq : List (D × OD) → Prop}
theorem z_updR : dUpdR ρ r W δ = ρ δ fun i π => dicAt δ i π fun t ks => r δ fun d => updQ t ks d fun ks' => W.nx (putS δ i π (.dic t ks')) := propext Iff.rfl
theorem z_updQ : updQ t ks (.dic ls) Kq = ((t = true ∧ ks ≠ [] ∧ (ls.all fun z => (dkT z.1).isSome) = true ∧ ks.length + ls.length ≤ sizeLine) ∧ Kq (ls.foldl (fun acc z => putO acc z.1 (.sh z.2)) ks)) := propext Iff.rfl
end
end DL
/-! Dl53: data that stand at a place of one's own -/
namespace DL
open PySem PySem.Spec PyProof.Rows L2 Evl
def shAt (δ : DS) (i : Nat) (π : List Nat) (K : D → Prop) : Prop := match getS δ i π with
  | some (.sh d) => K d
  | _ => False
def dPl (ρ : DR) : DE := fun δ Q => ρ δ fun i π => shAt δ i π Q
theorem shAt_at {δ : DS} {i : Nat} {π : List Nat} {K : D → Prop} (h : shAt δ i π K) : ∃ d, getS δ i π = some (.sh d) ∧ K d := by
  unfold shAt at h
  split at h
  · exact ⟨_, by assumption, h⟩
  · exact h.elim
section
variable {X : Cx} {B : Bx} {e : Expr} {ρ : DR}
theorem pd_pl (ho : PR X B e ρ) : PD X B e (dPl ρ) := pe_mono ho fun σ H P q => by
  obtain ⟨H0, G, δ, Q, j, st, h, k⟩ := q
  refine ⟨H0, G, δ, _, j, st, h, fun i π v0 v G2 H2 q2 g2 h0 hv => ?_⟩
  obtain ⟨d, hx, q2⟩ := shAt_at q2
  obtain ⟨_, a1, _⟩ := (st.gr g2).place hx h0 hv (Gr.refl g2.j)
  cases a1 with
  | sh hd => exact k _ _ G2 H2 q2 g2 hd
end
section
variable {ρ : DR} {δ : DS} {Q : D → Prop} {v : V} {t : Bool} {ks : List (D × OD)} {y d : D} {n i : Nat} {π : List Nat} {oo : Option SD}
theorem z_pl : dPl ρ δ Q = ρ δ fun i π => shAt δ i π Q := propext Iff.rfl
theorem z_shAS : shAt (oo :: δ) (i + 1) π Q = shAt δ i π Q := by unfold shAt getS; rw [List.getElem?_cons_succ]
theorem z_shA (h : ks[n]? = some (y, .sh d)) : shAt (some (.ow v (.dic t ks)) :: δ) 0 [n] Q = Q d := by
  have e : getS (some (.ow v (.dic t ks)) :: δ) 0 [n] = some (.sh d) := by
    show getO (.dic t ks) [n] = _
    show (match ks[n]? with | some z => getO z.2 [] | none => none) = _
    rw [h]
    rfl
  unfold shAt
  rw [e]
end
end DL
/-! Dl54: x.setdefault(k, []).append(e), x a variable that holds one's own dict of lists, the keys ints or texts -/
namespace DL
open PySem PySem.Spec PyProof.Rows L2 Evl
def sd1 (ks : List (D × OD)) (y : D) : List (D × OD) × Nat := match idxK ks y with
  | some n => (ks, n)
  | none => (ks ++ [(y, .lst [])], ks.length)
def sdL (r : List (D × OD) × Nat) (K : D → List OD → Prop) : Prop := match r.1[r.2]? with
  | some (z, .lst xs) => K z xs
  | _ => False
def dicF (o : OD) (K : List (D × OD) → Prop) : Prop := match o with
  | .dic false ks => K ks
  | _ => False
def dSetdApp (i : Nat) (rk rx : DE) : DTS := fun W δ => ownO δ[i]? fun v o => dicF o fun ks => rk δ fun y => (keyFit false y = true ∧ ks.length < sizeLine) ∧ sdL (sd1 ks y) fun z xs => rx (δ.set i (some (.ow v (.dic false (sd1 ks y).1)))) fun x =>
  xs.length < sizeLine ∧ W.nx (δ.set i (some (.ow v (.dic false ((sd1 ks y).1.set (sd1 ks y).2 (z, .lst (xs ++ [.sh x])))))))
theorem sdL_at {r : List (D × OD) × Nat} {K : D → List OD → Prop} (h : sdL r K) : ∃ z xs, r.1[r.2]? = some (z, .lst xs) ∧ K z xs := by
  unfold sdL at h
  split at h
  · exact ⟨_, _, by assumption, h⟩
  · exact h.elim
theorem dicF_at {o : OD} {K : List (D × OD) → Prop} (h : dicF o K) : ∃ ks, o = .dic false ks ∧ K ks := by
  unfold dicF at h
  split at h
  · exact ⟨_, rfl, h⟩
  · exact h.elim
theorem own_idx {K : PySem.W.Frag} {B : Bx} {G H : Hp} {k : Key} : ∀ {kvs : List (Key × V)} {ks : List (D × OD)} {f : List Addr}, OwnK K B G H kvs ks f → (idxK ks (embK k) = none ∧ valV kvs k = none) ∨ ∃ n key w, idxK ks (embK k) = some n ∧ valV kvs k = some w ∧ kvs[n]? = some (key, w)
  | _, _, _, .nil => .inl ⟨rfl, rfl⟩
  | _, _, _, .consI (i := i) (v := v) h t => by
    rw [idx_cons]
    have q : keqD (.int i) (embK k) = decide ((.inl i : Key) = k) := keqD_K (.inl i) k
    by_cases e : (.inl i : Key) = k
    · rw [valV_pos (p := (Sum.inl i, v)) e, if_pos (by rw [q]; exact decide_eq_true e)]
      exact .inr ⟨0, _, _, rfl, rfl, rfl⟩
    · rw [valV_neg (p := (Sum.inl i, v)) e, if_neg (by rw [q, decide_eq_false e]; decide)]
      rcases own_idx (k := k) t with ⟨a, b⟩ | ⟨n, key, w, a, b, c⟩
      · exact .inl ⟨by rw [a]; rfl, b⟩
      · exact .inr ⟨n + 1, key, w, by rw [a]; rfl, b, c⟩
  | _, _, _, .consS (x := i) (v := v) h t => by
    rw [idx_cons]
    have q : keqD (.str i) (embK k) = decide ((.inr i : Key) = k) := keqD_K (.inr i) k
    by_cases e : (.inr i : Key) = k
    · rw [valV_pos (p := (Sum.inr i, v)) e, if_pos (by rw [q]; exact decide_eq_true e)]
      exact .inr ⟨0, _, _, rfl, rfl, rfl⟩
    · rw [valV_neg (p := (Sum.inr i, v)) e, if_neg (by rw [q, decide_eq_false e]; decide)]
      rcases own_idx (k := k) t with ⟨a, b⟩ | ⟨n, key, w, a, b, c⟩
      · exact .inl ⟨by rw [a]; rfl, b⟩
      · exact .inr ⟨n + 1, key, w, by rw [a]; rfl, b, c⟩
section
variable {X : Cx} {B : Bx} {e ke : Expr} {rk rx : DE} {pos apos cpos : Pos}
theorem dset_same {α : Type} {l : List α} {i : Nat} {a : α} (h : l[i]? = some a) : l.set i a = l := by
  obtain ⟨hi, e⟩ := List.getElem?_eq_some_iff.mp h
  rw [← e]
  exact List.set_getElem_self hi
theorem app_tail {E : VK} {W : DEnds} {σ : L2.St} {δ1 : DS} {i n : Nat} {xs : List OD} {w v0 : V} {G0 H0 G H : Hp} (hx : getS δ1 i [n] = some (.lst xs)) (h0 : σ[i]? = some (some v0)) (hv : locV H v0 [n] = some w) (g0 : Gr X.K B G0 H0 G H) (st : StOk X.K B H0 G H σ δ1)
    (h : rx δ1 fun x => xs.length < sizeLine ∧ W.nx (putS δ1 i [n] (.lst (xs ++ [.sh x])))) (k : ∀ δ G2 H2, W.nx δ → Gr X.K B G0 H0 G2 H2 → Ex G G2 → StOk X.K B H0 G2 H2 σ δ → ∀ v, E v H2) :
    tyV X.K "list" w H ∧ tCons (liftE X.K B rx) tNil σ H fun vs H2 => rAppend w vs H2 E := by
  obtain ⟨_, a1, _⟩ := st.place hx h0 hv (Gr.refl g0.j)
  cases a1 with
  | @lst p vs _ f b1 b2 b3 =>
    refine ⟨.inl ⟨rfl, vs, sq_of b1⟩, H0, G, δ1, _, g0.j, st, h, fun d u G3 H3 q3 g3 h3 => ?_⟩
    obtain ⟨fs, c1, c2, c3, _, c5⟩ := st.place hx h0 hv g3
    cases c1 with
    | @lst _ vs' _ f' d1 d2 d3 =>
      refine ⟨p, vs', u, rfl, rfl, d1, by rw [d3.len]; exact q3.1, ?_⟩
      have hp := c3 p List.mem_cons_self
      have np := (List.nodup_cons.mp c2).1
      refine k _ _ _ q3.2 ((g0.trans g3).own hp.1 d2 hp.2) g3.ex (c5 p _ _ (p :: f') List.mem_cons_self (.lst upd_same d2 ?_) c2 fun q hq => hq) _
      have c4 := (d3.past (ho := .lst (vs' ++ [u])) np).append (Owns.cons (H := upd H3 p (.lst (vs' ++ [u]))) (.sh h3) .nil)
      rw [List.append_nil, List.append_nil] at c4
      exact c4
theorem psd_setdApp {i : Nat} {o : Expr} {lp : Pos} {apos2 cpos2 : Pos} (ho : PE X o (tVar i)) (hk : PD X B ke rk) (he : PD X B e rx) (m : M2 X o "setdefault" apos2 ke (.List [] lp) cpos2)
    (hbase : attributeBase (.Call (.Attribute o "setdefault" apos2) [ke, .List [] lp] [] cpos2) "append" X.env (eval (.Call (.Attribute o "setdefault" apos2) [ke, .List [] lp] [] cpos2) X.env) = eval (.Call (.Attribute o "setdefault" apos2) [ke, .List [] lp] [] cpos2) X.env := by rfl)
    (hfew : ((backTo cpos (starEach [e] X.env)).all (fun x => !x.1) && (backToKw cpos (keywordEach [] X.env)).all (fun x => x.1.isSome) && decide ([e].length + ([] : List Keyword).length + (if ([] : List Keyword).isEmpty then 0 else 1) < 30)) = true := by rfl)
    (hline : (apos.endLine == cpos.line) = true := by rfl) (hs : starEach [e] X.env = (false, eval e X.env) :: starEach [] X.env := by rfl) (hplain : (backTo cpos (starEach [] X.env)).any (·.1) = false := by rfl)
    (hsw : swapsWith (.Call (.Attribute (.Call (.Attribute o "setdefault" apos2) [ke, .List [] lp] [] cpos2) "append" apos) [e] [] cpos) none pos.line X.env = pure false := by rfl) :
    PSD X B (.Expr (.Call (.Attribute (.Call (.Attribute o "setdefault" apos2) [ke, .List [] lp] [] cpos2) "append" apos) [e] [] cpos) pos) (dSetdApp i rk rx) :=
  ps_mono (ps_expr (pe_bm PySem.F.plainAttrs_list PySem.F.slot_list_append PySem.F.type_list_append mt_append (pe_dsetd ho hk (pe_lst pa_nil) m) (pa_cons he pa_nil hs) hbase hfew hline hs hplain) hsw) fun E σ H q => by
  obtain ⟨G0, H0, G, δ, W, g0, st, h, k⟩ := q
  have h : ownO δ[i]? (fun v o => dicF o fun ks => rk δ fun y => (keyFit false y = true ∧ ks.length < sizeLine) ∧ sdL (sd1 ks y) fun z xs => rx (δ.set i (some (.ow v (.dic false (sd1 ks y).1)))) fun x =>
    xs.length < sizeLine ∧ W.nx (δ.set i (some (.ow v (.dic false ((sd1 ks y).1.set (sd1 ks y).2 (z, .lst (xs ++ [.sh x]))))))) ) := h
  unfold ownO at h
  split at h
  · rename_i v o1 h1
    obtain ⟨ks, eo, h⟩ := dicF_at h
    subst eo
    obtain ⟨F, y⟩ := st.ex
    obtain ⟨e1, e2, e3, e4⟩ := y.ow h1
    generalize hFi : F i = Fi at e2 e3 e4
    cases e2 with
    | @dK p kvs _ f b1 b2 b3 =>
      refine ⟨_, e1, p, rfl, .inl ⟨kvs, .inl b1⟩, H0, G, δ, _, g0.j, st, h, fun yd u G2 H2 q2 g2 h2 => ?_⟩
      refine ⟨Nat.zero_le _, fun q hq => ?_⟩
      obtain ⟨⟨kf, kz⟩, q2⟩ := q2
      obtain ⟨z, xs, hz, q2⟩ := sdL_at q2
      obtain ⟨kk, ek⟩ := Option.isSome_iff_exists.mp (show (dk1 yd).isSome = true from kf)
      have eu := keyV h2 ek
      have ey := emb_dk1 ek
      have y2 := y.gr g2
      obtain ⟨_, c2, c3, c4⟩ := y2.ow h1
      rw [hFi] at c2 c3 c4
      have hp2 : H2 p = some (.dK kvs) := g2.keep p _ (e4 p List.mem_cons_self).2 b1
      have hpq : p ≠ q := fun z => by rw [z, hq] at hp2; cases hp2
      have gp2 : G2 p = none := by rw [g2.old p ⟨_, b1, fun _ z => by cases z⟩]; exact b2
      have nB : p ≠ B.b := (e4 p List.mem_cons_self).2
      have hB : q ≠ B.b := Gr.neB g2.j hq
      have hp3 : L2.upd H2 q (.lst []) p = some (.dK kvs) := by rw [upd_ne hpq]; exact hp2
      have b4 : OwnK X.K B G2 H2 kvs ks f := b3.keep g2.ex fun a ha => by
        have n := b3.node a ha
        refine ⟨?_, g2.old a n.at⟩
        cases w : H a with
        | none => exact absurd w n.at.ne
        | some ob => exact g2.keep a ob (e4 a (List.mem_cons_of_mem _ ha)).2 w
      have kl : kvs.length = ks.length := b4.len
      have g3 := g2.trans (Gr.new0 (o := .lst []) g2.j hq)
      refine ⟨kvs, kk, hp3, eu, by rw [kl]; exact kz, fun w hw => ?_, fun hn => ?_⟩
      · rcases own_idx (k := kk) b4 with ⟨_, a⟩ | ⟨n, key, w', a1, a2, a3⟩
        · rw [a] at hw; cases hw
        · rw [a2] at hw
          cases hw
          have es : sd1 ks yd = (ks, n) := by unfold sd1; rw [ey, a1]
          rw [es] at hz q2
          have hz : ks[n]? = some (z, .lst xs) := hz
          have ed : δ.set i (some (.ow (.ref p) (.dic false ks))) = δ := dset_same h1
          have q2 : rx (δ.set i (some (.ow (.ref p) (.dic false ks)))) (fun x => xs.length < sizeLine ∧ W.nx (δ.set i (some (.ow (.ref p) (.dic false (ks.set n (z, .lst (xs ++ [.sh x])))))))) := q2
          rw [ed] at q2
          have hx : getS δ i [n] = some (.lst xs) := by
            unfold getS
            rw [h1]
            show (match ks[n]? with | some z => getO z.2 [] | none => none) = _
            rw [hz]
            rfl
          refine app_tail hx e1 ?_ (g0.trans g3) (st.gr g3) ?_ fun δ' G5 H5 nx gg ex s5 v => k.nx _ _ _ _ nx gg (g3.ex.trans ex) s5
          · show (match L2.upd H2 q (.lst []) p with | some (.lst vs) => _ | some (.dK vs) => (match vs[n]? with | some u => locV (L2.upd H2 q (.lst [])) u.2 [] | none => none) | some (.dT vs) => _ | _ => none) = _
            rw [hp3]
            show (match kvs[n]? with | some u => locV (L2.upd H2 q (.lst [])) u.2 [] | none => none) = _
            rw [a3]
            cases w <;> rfl
          · have so : ∀ s : OD, setO (.dic false ks) [n] s = .dic false (ks.set n (z, s)) := fun s => by
              show (match ks[n]? with | some z => OD.dic false (ks.set n (z.1, setO z.2 [] s)) | none => .dic false ks) = _
              rw [hz]
              show OD.dic false (ks.set n (z, setO (.lst xs) [] s)) = _
              rw [z_setO0]
            have ep : ∀ s : OD, putS δ i [n] s = δ.set i (some (.ow (.ref p) (.dic false (ks.set n (z, s))))) := fun s => by rw [putS_at h1, so]
            simp only [ep]
            exact q2
      · have es : sd1 ks yd = (ks ++ [(yd, .lst [])], ks.length) := by
          rcases own_idx (k := kk) b4 with ⟨a, _⟩ | ⟨n, key, w', _, a2, _⟩
          · unfold sd1; rw [ey, a]
          · rw [hn] at a2; cases a2
        rw [es] at hz q2
        have hz : (ks ++ [(yd, OD.lst [])])[ks.length]? = some (z, .lst xs) := hz
        rw [List.getElem?_append_right (Nat.le_refl _), Nat.sub_self] at hz
        have hz : some (yd, OD.lst []) = some (z, .lst xs) := hz
        injection hz with hz
        injection hz with hz1 hz2
        injection hz2 with hz2
        subst hz1 hz2
        have ep : putK kvs kk (.ref q) = kvs ++ [(kk, .ref q)] := putK_new _ hn
        rw [ep]
        generalize hH4 : L2.upd (L2.upd H2 q (.lst [])) p (.dK (kvs ++ [(kk, .ref q)])) = H4
        have h4p : H4 p = some (.dK (kvs ++ [(kk, .ref q)])) := by rw [← hH4]; exact upd_same
        have h4q : H4 q = some (.lst []) := by rw [← hH4, upd_ne (Ne.symm hpq)]; exact upd_same
        have h4o : ∀ a, a ≠ p → a ≠ q → H4 a = H2 a := fun a n1 n2 => by rw [← hH4, upd_ne n1, upd_ne n2]
        have gq2 : G2 q = none := fresh_back g2.j.ex hq
        have nf := List.nodup_cons.mp c3
        have fq : ∀ a ∈ f, a ≠ q := fun a ha z => (b4.node a ha).at.ne (z ▸ hq)
        have b5 : OwnK X.K B G2 H4 kvs ks f := b4.keep (Ex.refl _) fun a ha => ⟨h4o a (fun z => nf.1 (z ▸ ha)) (fq a ha), rfl⟩
        have ow : Own X.K B G2 H4 (.ref p) (.dic false (ks ++ [(yd, .lst [])])) (p :: (f ++ (q :: []))) := by
          rw [ey]
          exact .dK h4p gp2 (OwnK.snoc (.lst h4q gq2 .nil) b5)
        have h0q : H0 q = none := (g0.trans g2).free hq
        have nd : (p :: (f ++ (q :: []))).Nodup := List.nodup_cons.mpr ⟨fun z => (List.mem_append.mp z).elim nf.1 fun z => hpq (List.mem_singleton.mp z), List.nodup_append.mpr ⟨nf.2, List.nodup_cons.mpr ⟨by simp, List.nodup_nil⟩, fun a ha b hb z => fq a ha (z.trans (List.mem_singleton.mp hb))⟩⟩
        have fr : ∀ a ∈ p :: (f ++ (q :: [])), H0 a = none ∧ a ≠ B.b := fun a ha => by
          rcases List.mem_cons.mp ha with z | ha
          · subst z; exact e4 _ List.mem_cons_self
          · rcases List.mem_append.mp ha with ha | ha
            · exact e4 a (List.mem_cons_of_mem _ ha)
            · rw [List.mem_singleton.mp ha]; exact ⟨h0q, hB⟩
        have st4 : StOk X.K B H0 G2 H4 σ (δ.set i (some (.ow (.ref p) (.dic false (ks ++ [(yd, .lst [])]))))) := by
          have z := y2.put (i := i) (List.getElem?_eq_some_iff.mp e1).1 (Ex.refl G2) (H2 := H4) (fun a ma na ha => ⟨h4o a (fun z => ha (by rw [hFi, z]; exact List.mem_cons_self)) (fun z => ma.ne (z ▸ hq)), rfl⟩) (.ow ow nd fr) fun a ha => by
            rw [hFi]
            rcases List.mem_cons.mp ha with z | ha
            · exact .inr (z ▸ List.mem_cons_self)
            · rcases List.mem_append.mp ha with ha | ha
              · exact .inr (List.mem_cons_of_mem _ ha)
              · exact .inl (by rw [List.mem_singleton.mp ha]; exact hq)
          rw [dset_same e1] at z
          exact ⟨_, z⟩
        have g4 : Gr X.K B G0 H0 G2 H4 := by
          rw [← hH4]
          exact ((g0.trans g3)).own (e4 p List.mem_cons_self).1 gp2 nB
        have h1' : (δ.set i (some (SD.ow (.ref p) (.dic false (ks ++ [(yd, .lst [])])))))[i]? = some (some (.ow (.ref p) (.dic false (ks ++ [(yd, .lst [])])))) := List.getElem?_set_self (List.getElem?_eq_some_iff.mp h1).1
        have hn2 : (ks ++ [(yd, OD.lst [])])[ks.length]? = some (yd, .lst []) := by rw [List.getElem?_append_right (Nat.le_refl _), Nat.sub_self]; rfl
        refine app_tail (n := ks.length) (xs := []) ?_ e1 ?_ g4 st4 ?_ fun δ' G5 H5 nx gg ex s5 v => k.nx _ _ _ _ nx gg (g2.ex.trans ex) s5
        · unfold getS
          rw [h1']
          show (match (ks ++ [(yd, OD.lst [])])[ks.length]? with | some z => getO z.2 [] | none => none) = _
          rw [hn2]
          rfl
        · show (match H4 p with | some (.lst vs) => _ | some (.dK vs) => (match vs[ks.length]? with | some u => locV H4 u.2 [] | none => none) | some (.dT vs) => _ | _ => none) = _
          rw [h4p]
          show (match (kvs ++ [(kk, V.ref q)])[ks.length]? with | some u => locV H4 u.2 [] | none => none) = _
          rw [← kl, List.getElem?_append_right (Nat.le_refl _), Nat.sub_self]
          rfl
        · have so : ∀ s : OD, setO (OD.dic false (ks ++ [(yd, OD.lst [])])) [ks.length] s = OD.dic false ((ks ++ [(yd, OD.lst [])]).set ks.length (yd, s)) := fun s => by
            show (match (ks ++ [(yd, OD.lst [])])[ks.length]? with | some z => OD.dic false ((ks ++ [(yd, OD.lst [])]).set ks.length (z.1, setO z.2 [] s)) | none => OD.dic false (ks ++ [(yd, OD.lst [])])) = _
            rw [hn2]
            show OD.dic false ((ks ++ [(yd, OD.lst [])]).set ks.length (yd, setO (.lst []) [] s)) = _
            rw [z_setO0]
          have ep : ∀ s : OD, putS (δ.set i (some (SD.ow (.ref p) (.dic false (ks ++ [(yd, .lst [])]))))) i [ks.length] s = δ.set i (some (SD.ow (.ref p) (OD.dic false ((ks ++ [(yd, OD.lst [])]).set ks.length (yd, s))))) := fun s => by rw [putS_at h1', so, List.set_set]
          simp only [ep]
          exact q2
  · exact h.elim
end
end DL
/-! Dl55: a new list of plain values while one's own is lent -/
namespace DL
open PySem PySem.Spec PyProof.Rows L2 Evl
section
variable {X : Cx} {B : Bx}
theorem bor_core2 {pins : List (Addr × Obj)} {σ : L2.St} {s : Shared} {H0 G H : Hp} {δ : DS} {i : Nat} {v : V} {o : OD} (I : Inv X pins σ H s) (j : Jn X.K B G H) (st : StOk X.K B H0 G H σ δ) (h1 : δ[i]? = some (some (.ow v o))) :
    ∃ G1 L, Inv X pins σ L s ∧ Jn X.K B G1 L ∧ StOk X.K B H0 G1 L σ (δ.set i (some (.sh o.toD))) ∧ (∀ a, L a = none → H a = none) ∧ ∀ s2 G2 H2, Inv X pins σ H2 s2 → Gr X.K B G1 L G2 H2 → ∃ U, Inv X pins σ U s2 ∧ Gr X.K B G H G U ∧ ∀ a, H a = none → U a = H2 a := by
  obtain ⟨F, y⟩ := st.ex
  obtain ⟨e1, e2, e3, e4⟩ := y.ow h1
  obtain ⟨L, I2, l⟩ := lock_all (F i) I e3
  have hG : ∀ p ∈ F i, G p = none := fun p hp => (e2.node p hp).1
  have ex := frz_ex (G := G) (H := L) hG
  have nb : B.b ∉ F i := fun z => (e4 _ z).2 rfl
  have kinds := lkd_kinds l fun p hp => e2.node p hp
  have nf : ∀ p ∈ F i, ∀ o' u', X.H_0 p ≠ some (.frz o' u') := fun p hp => by
    rcases (e2.node p hp).2 with ⟨vs, a⟩ | ⟨vs, a⟩ | ⟨vs, a⟩ <;> exact I.nofrz a trivial
  refine ⟨frzG G L (F i), L, I2, ⟨fun a u h => ?_, ?_, ?_⟩, ?_, fun a h => ?_, fun s2 G2 H2 J g => ?_⟩
  · unfold frzG at h
    split at h
    · exact h
    · rename_i hn
      rw [l.out a hn]
      exact j.ex a u h
  · unfold frzG
    rw [if_neg nb]
    exact j.no
  · obtain ⟨a, b, c, ns, h1, h2, h3⟩ := j.bag
    exact ⟨a, b, c, ns, by rw [l.out _ nb]; exact h1, ex_l ex h2, h3⟩
  · have s3 := y.put (i := i) (List.getElem?_eq_some_iff.mp e1).1 ex (H2 := L) (fun p _ _ hp => ⟨l.out p hp, by unfold frzG; rw [if_neg hp]⟩) (.sh (e2.dat hG l fun p hp => hp)) fun p hp => nomatch hp
    rw [set_same e1] at s3
    exact ⟨_, s3⟩
  · by_cases ha : a ∈ F i
    · rcases kinds a ha with ⟨vs, _, b⟩ | ⟨u, od, _, b⟩ <;> rw [b] at h <;> cases h
    · rw [l.out a ha] at h
      exact h
  · have h2 : ∀ p ∈ F i, H2 p = L p := fun p hp => by
      rcases kinds p hp with ⟨vs, _, b⟩ | ⟨u, od, _, b⟩ <;> rw [b] <;> exact g.keep p _ (e4 p hp).2 b
    obtain ⟨U, J2, u1, u2⟩ := unlock_all (H := H) (L := L) (F i) J e3 kinds h2 nf
    have keep : ∀ a o, a ≠ B.b → H a = some o → U a = some o := fun a o n h => by
      by_cases ha : a ∈ F i
      · rw [u1 a ha]; exact h
      · rw [u2 a ha]
        exact g.keep a o n ((l.out a ha).trans h)
    refine ⟨U, J2, ⟨Ex.refl G, keep, ⟨fun a o h => ?_, j.no, ?_⟩, fun _ _ => rfl⟩, fun a h => u2 a fun z => (e2.node a z).at.ne h⟩
    · exact keep a o (fun e => by subst e; rw [j.no] at h; cases h) (j.ex a o h)
    · obtain ⟨_, _, _, ns, _, h2, _, _, _, _, h7, h8⟩ := j.bag
      obtain ⟨a, b, c, _, h1, _, h3, h4, h5, h6, _, _⟩ := g.j.bag
      exact ⟨a, b, c, ns, by rw [u2 _ nb]; exact h1, h2, h3, h4, h5, h6, h7, h8⟩
theorem scal_dats {K : PySem.W.Frag} {G G2 : Hp} : ∀ {vs : List V} {ds : List D}, Dats K B G vs ds → ds.all scal = true → Dats K B G2 vs ds
  | _, _, .nil, _ => .nil
  | _, _, .cons h t, s => by
    rw [List.all_cons, Bool.and_eq_true] at s
    exact .cons (scal_dat h s.1) (scal_dats t s.2)
def fBor (i : Nat) (r : DA) : DA := fun δ Q => ownO δ[i]? fun _ o => r (δ.set i (some (.sh o.toD))) fun ds => ds.all scal = true ∧ Q ds
theorem pf_bor {e : Expr} {r : DA} (i : Nat) (h : PF X B e r) : PF X B e (fBor i r) := ⟨fun pins s σ H P I q => by
  obtain ⟨H0, G, δ, Q, j, st, hr, k⟩ := q
  have hr : ownO δ[i]? fun _ o => r (δ.set i (some (.sh o.toD))) fun ds => ds.all scal = true ∧ Q ds := hr
  unfold ownO at hr
  split at hr
  · rename_i v o h1
    obtain ⟨G1, L, I2, j1, s1, nn, back⟩ := bor_core2 I j st h1
    refine thn (h.run pins s σ L (fun x H2 => ∃ G2 ds p vs, x = .ref p ∧ (ds.all scal = true ∧ Q ds) ∧ Gr X.K B G1 L G2 H2 ∧ L p = none ∧ H2 p = some (.lst vs) ∧ Dats X.K B G2 vs ds) I2 ⟨H0, G1, _, _, j1, s1, hr, fun ds p vs G2 H2 q2 g2 n1 n2 n3 n4 => ⟨G2, ds, p, vs, rfl, q2, g2, n1, n3, n4⟩⟩) fun u s2 ⟨x, H2, J, r2, G2, ds, p, vs, ex, q2, g2, n1, n3, n4⟩ => ?_
    subst ex
    obtain ⟨U, J2, g3, un⟩ := back s2 G2 H2 J g2
    have hp := nn p n1
    exact ⟨_, U, J2, r2, k ds p vs G U q2.2 g3 hp (fresh_back j.ex hp) (by rw [un p hp]; exact n3) (scal_dats n4 q2.1)⟩
  · exact hr.elim⟩
end
section
variable {i : Nat} {r : DA} {δ : DS} {Q : List D → Prop}
theorem z_fBor : fBor i r δ Q = ownO δ[i]? fun _ o => r (δ.set i (some (.sh o.toD))) fun ds => ds.all scal = true ∧ Q ds := propext Iff.rfl
end
end DL
/-! Dl56: return [x[k] for k in ..], x one's own dict that is given away -/
namespace DL
open PySem PySem.Spec PyProof.Rows L2 Evl
section
variable {K : PySem.W.Frag} {B : Bx} {G H : Hp}
theorem OwnK.split : ∀ {kvs : List (Key × V)} {ks : List (D × OD)} {f : List Addr}, OwnK K B G H kvs ks f → ∃ fs : List (List Addr), f = fs.flatten ∧ ∀ (n : Nat) (q : Key × V), kvs[n]? = some q → ∃ (z : D × OD) (fn : List Addr), ks[n]? = some z ∧ fs[n]? = some fn ∧ Own K B G H q.2 z.2 fn
  | _, _, _, .nil => ⟨[], rfl, fun n q e => by simp at e⟩
  | _, _, _, .consI (f := f) h t => by
    obtain ⟨fs, e, r⟩ := OwnK.split t
    refine ⟨f :: fs, by rw [List.flatten_cons, e], fun n q e => ?_⟩
    cases n with
    | zero => cases e; exact ⟨_, f, rfl, rfl, h⟩
    | succ n => exact r n q (by simpa using e)
  | _, _, _, .consS (f := f) h t => by
    obtain ⟨fs, e, r⟩ := OwnK.split t
    refine ⟨f :: fs, by rw [List.flatten_cons, e], fun n q e => ?_⟩
    cases n with
    | zero => cases e; exact ⟨_, f, rfl, rfl, h⟩
    | succ n => exact r n q (by simpa using e)
theorem disj_at : ∀ {fs : List (List Addr)}, fs.flatten.Nodup → ∀ {a b : Nat} {f g : List Addr}, fs[a]? = some f → fs[b]? = some g → a ≠ b → ∀ p ∈ f, p ∉ g
  | x :: fs, nd, 0, 0, _, _, _, _, h, _, _ => absurd rfl h
  | x :: fs, nd, 0, b + 1, f, g, e1, e2, _, p, hp => fun hq => by
    rw [List.flatten_cons] at nd
    cases e1
    exact (List.nodup_append.mp nd).2.2 p hp p (List.mem_flatten.mpr ⟨g, List.mem_of_getElem? (by simpa using e2), hq⟩) rfl
  | x :: fs, nd, a + 1, 0, f, g, e1, e2, _, p, hp => fun hq => by
    rw [List.flatten_cons] at nd
    cases e2
    exact (List.nodup_append.mp nd).2.2 p hq p (List.mem_flatten.mpr ⟨f, List.mem_of_getElem? (by simpa using e1), hp⟩) rfl
  | x :: fs, nd, a + 1, b + 1, f, g, e1, e2, h, p, hp => by
    rw [List.flatten_cons] at nd
    exact disj_at (List.nodup_append.mp nd).2.1 (by simpa using e1) (by simpa using e2) (fun z => h (by rw [z])) p hp
theorem nd_at : ∀ {fs : List (List Addr)}, fs.flatten.Nodup → ∀ {a : Nat} {f : List Addr}, fs[a]? = some f → f.Nodup
  | x :: fs, nd, 0, _, e => by
    rw [List.flatten_cons] at nd
    cases e
    exact (List.nodup_append.mp nd).1
  | x :: fs, nd, a + 1, f, e => by
    rw [List.flatten_cons] at nd
    exact nd_at (List.nodup_append.mp nd).2.1 (by simpa using e)
/-- some values of a dict of one's own, each once, in some order -/
def pickO (ks : List (D × OD)) (ns : List Nat) : List OD := ns.filterMap fun n => (ks[n]?).map (·.2)
def pickV (kvs : List (Key × V)) (ns : List Nat) : List V := ns.filterMap fun n => (kvs[n]?).map (·.2)
theorem OwnK.pick {kvs : List (Key × V)} {ks : List (D × OD)} {f : List Addr} (h : OwnK K B G H kvs ks f) (nd : f.Nodup) (ns : List Nat) (hn : ns.Nodup) (hl : ∀ n ∈ ns, n < kvs.length) : ∃ f', Owns K B G H (pickV kvs ns) (pickO ks ns) f' ∧ f'.Nodup ∧ ∀ p ∈ f', p ∈ f := by
  obtain ⟨fs, e, r⟩ := h.split
  subst e
  suffices hh : ∀ ns : List Nat, ns.Nodup → (∀ n ∈ ns, n < kvs.length) → ∃ f', Owns K B G H (pickV kvs ns) (pickO ks ns) f' ∧ f'.Nodup ∧ (∀ p ∈ f', ∃ n ∈ ns, ∃ g, fs[n]? = some g ∧ p ∈ g) by
    obtain ⟨f', a1, a2, a3⟩ := hh ns hn hl
    refine ⟨f', a1, a2, fun p hp => ?_⟩
    obtain ⟨n, _, g, e, hg⟩ := a3 p hp
    exact List.mem_flatten.mpr ⟨g, List.mem_of_getElem? e, hg⟩
  intro ns
  induction ns with
  | nil => exact fun _ _ => ⟨[], .nil, List.nodup_nil, fun p hp => nomatch hp⟩
  | cons n ns ih =>
    intro hn hl
    have hn' := List.nodup_cons.mp hn
    obtain ⟨f', a1, a2, a3⟩ := ih hn'.2 fun m hm => hl m (List.mem_cons_of_mem _ hm)
    have hlt := hl n List.mem_cons_self
    have eq : kvs[n]? = some (kvs[n]'hlt) := List.getElem?_eq_getElem hlt
    obtain ⟨z, fn, e1, e2, ow⟩ := r n _ eq
    refine ⟨fn ++ f', ?_, List.nodup_append.mpr ⟨nd_at nd e2, a2, fun p hp q hq e => ?_⟩, fun p hp => ?_⟩
    · have ev : pickV kvs (n :: ns) = (kvs[n]'hlt).2 :: pickV kvs ns := by unfold pickV; rw [List.filterMap_cons, eq]; rfl
      have eo : pickO ks (n :: ns) = z.2 :: pickO ks ns := by unfold pickO; rw [List.filterMap_cons, e1]; rfl
      rw [ev, eo]
      exact .cons ow a1
    · subst e
      obtain ⟨m, hm, g, e3, hg⟩ := a3 p hq
      exact disj_at nd e2 e3 (fun z => hn'.1 (z ▸ hm)) p hp hg
    · rcases List.mem_append.mp hp with hp | hp
      · exact ⟨n, List.mem_cons_self, fn, e2, hp⟩
      · obtain ⟨m, hm, g, e3, hg⟩ := a3 p hp
        exact ⟨m, List.mem_cons_of_mem _ hm, g, e3, hg⟩
end
def vL (i : Nat) (g : DG) (ρ : DR) (δ : DS) (Q : List Nat → Prop) : List D → List Nat → Prop
  | [], acc => Q acc
  | d :: ds, acc => g d δ fun δ' => ρ δ' fun j π => match π with
    | [n] => j = i ∧ vL i g ρ δ Q ds (acc ++ [n])
    | _ => False
def dRetVals (i : Nat) (ri : DA) (g : DG) (ρ : DR) (vs : List Nat) : DTS := fun W δ => ownO δ[i]? fun _ o => dicF o fun ks => ri δ fun ds => ds.length ≤ sizeLine ∧ vL i g ρ (wipeD δ vs) (fun ns => (ns.Nodup ∧ ∀ n ∈ ns, n < ks.length) ∧ W.ro (.lst (pickO ks ns))) ds []
section
variable {X : Cx} {B : Bx}
theorem psd_retVals {elt tg iter : Expr} {scope : Scope} {own : List (Str × Nat)} {lpos pos : Pos} {i : Nat} {ri : DA} {g : DG} {is : List Nat} {ρ : DR} (hc : X.calm = true) (hN : X.N.Nodup) (hi : PID X B tg iter ri) (ok : BlkOk X.N X.env.scope scope own) (hv : ∀ j ∈ is, j ∈ own.map (·.2)) (hni : i ∉ own.map (·.2))
    (hg : ∀ (s : Shared) (H : Hp) (C : Addr) (cl : List (Str × Addr)) (fp : List Addr), PGD (X.blk s H scope (compEnvC scope cl C X.env) fp) B tg is g)
    (ht : ∀ (s : Shared) (H : Hp) (C : Addr) (cl : List (Str × Addr)) (fp : List Addr), PTsD (X.blk s H scope (compEnvC scope cl C X.env) fp) B [] dYes)
    (he : ∀ (s : Shared) (H : Hp) (C : Addr) (cl : List (Str × Addr)) (fp : List Addr), PR (X.blk s H scope (compEnvC scope cl C X.env) fp) B elt ρ) (hs : ∀ x, foldedSetIterable iter X.env x = pure x := by intro _; rfl) :
    PSD X B (.Return (some (.ListComp elt [⟨tg, iter, [], 0⟩] scope lpos)) pos) (dRetVals i ri g ρ (own.map (·.2))) :=
  ps_mono (ps_ret (pe_lc (wi := liftI X.K B ri) (g := liftG X.K B is g) (tt := liftT X.K B dYes) (te := liftR X.K B ρ) hc hN hi ok hg ht he hs)) fun E σ H q => by
  obtain ⟨G0, H0, G, δ, W, g0, st, h, k⟩ := q
  have h : ownO δ[i]? (fun _ o => dicF o fun ks => ri δ fun ds => ds.length ≤ sizeLine ∧ vL i g ρ (wipeD δ (own.map (·.2))) (fun ns => (ns.Nodup ∧ ∀ n ∈ ns, n < ks.length) ∧ W.ro (.lst (pickO ks ns))) ds []) := h
  unfold ownO at h
  split at h
  · rename_i v o h1
    obtain ⟨ks, eo, h⟩ := dicF_at h
    subst eo
    obtain ⟨F, y⟩ := st.ex
    obtain ⟨e1, e2, e3, e4⟩ := y.ow h1
    generalize hFi : F i = Fi at e2 e3 e4
    cases e2 with
    | @dK p kvs _ f b1 b2 b3 =>
      refine ⟨H0, G, δ, _, g0.j, st, h, fun ds J G2 H2 q2 g2 it D hD => ?_⟩
      obtain ⟨hz, q2⟩ := q2
      have nb : D ≠ B.b := Gr.neB g2.j hD
      have gD : G2 D = none := fresh_back g2.j.ex hD
      have st2 := st.gr g2
      have nB : p ≠ B.b := (e4 p List.mem_cons_self).2
      have pD : p ≠ D := fun z => by
        have := g2.keep p _ nB b1
        rw [z, hD] at this
        cases this
      refine ⟨fun j m H' => j + m = ds.length ∧ ∃ G' ns, Gr X.K B G2 H2 G' H' ∧ G' D = none ∧ H' D = some (.lst (pickV kvs ns)) ∧ (∀ n ∈ ns, n < kvs.length) ∧ ns.length ≤ j ∧ vL i g ρ (wipeD δ (own.map (·.2))) (fun ns => (ns.Nodup ∧ ∀ n ∈ ns, n < ks.length) ∧ W.ro (.lst (pickO ks ns))) (ds.drop j) ns,
        ⟨ds.length, by omega, G2, [], Gr.new0 g2.j hD, gD, upd_same, fun n hn => (nomatch hn), Nat.le_refl _, q2⟩, fun j m H' hw => ?_⟩
      obtain ⟨em, G', ns, gr, gD', hD', hns, hl, hf⟩ := hw
      by_cases hlt : j < ds.length
      · refine .inr ⟨it.go j G' H' gr.ex gr.j hlt, fun H1 => ∃ G1 ns, Gr X.K B G2 H2 G1 H1 ∧ G1 D = none ∧ H1 D = some (.lst (pickV kvs ns)) ∧ (∀ n ∈ ns, n < kvs.length) ∧ ns.length ≤ j + 1 ∧ vL i g ρ (wipeD δ (own.map (·.2))) (fun ns => (ns.Nodup ∧ ∀ n ∈ ns, n < ks.length) ∧ W.ro (.lst (pickO ks ns))) (ds.drop (j + 1)) ns, fun H1 hn => ⟨m - 1, by omega, by omega, hn⟩, fun x H1 hy => ?_⟩
        have hd : ds[j]? = some ds[j] := List.getElem?_eq_getElem hlt
        obtain ⟨G3, g3, hx⟩ := it.yld j G' H' x H1 _ gr.ex gr.j hy hd
        rw [List.drop_eq_getElem_cons hlt] at hf
        have hpn : Mu H' D := ⟨_, hD', fun _ z => by cases z⟩
        have hf : g ds[j] (wipeD δ (own.map (·.2))) (fun δ' => ρ δ' fun j' π => match π with
          | [n] => j' = i ∧ vL i g ρ (wipeD δ (own.map (·.2))) (fun ns => (ns.Nodup ∧ ∀ n ∈ ns, n < ks.length) ∧ W.ro (.lst (pickO ks ns))) (ds.drop (j + 1)) (ns ++ [n])
          | _ => False) := hf
        refine ⟨H0, G3, wipeD δ (own.map (·.2)), ds[j], _, g3.j, (st2.gr (gr.trans g3)).wipe (own.map (·.2)), hx, hf, fun σ2 δ2 q3 s3 u3 => ?_⟩
        refine ⟨by rw [u3.wipe hv, wipe_wipe], H0, G3, δ2, fun b => b = true ∧ ρ δ2 (fun j' π => match π with
          | [n] => j' = i ∧ vL i g ρ (wipeD δ (own.map (·.2))) (fun ns => (ns.Nodup ∧ ∀ n ∈ ns, n < ks.length) ∧ W.ro (.lst (pickO ks ns))) (ds.drop (j + 1)) (ns ++ [n])
          | _ => False), g3.j, s3, ⟨rfl, q3⟩, fun b G4 H4 q4 g4 => ?_⟩
        obtain ⟨eb, q4⟩ := q4
        subst eb
        rw [if_pos rfl]
        refine ⟨H0, G4, δ2, _, g4.j, s3.gr g4, q4, fun j' π v0 w G5 H5 q5 g5 h0 hw => ?_⟩
        match π, q5, hw with
        | [n], q5, hw =>
          obtain ⟨ej, q5⟩ := q5
          subst ej
          have g35 := (g3.trans g4).trans g5
          have hp5 : H5 p = some (.dK kvs) := ((g2.trans gr).trans g35).keep p _ nB b1
          have e0 : σ2[j']? = some (some (.ref p)) := by
            rw [u3.2 j' fun z => hni (hv _ z), wipe_at, if_neg fun z => hni z.1]
            exact e1
          rw [h0] at e0
          cases e0
          have hw : (match H5 p with | some (.lst vs) => (match vs[n]? with | some u => locV H5 u [] | none => none) | some (.dK vs) => (match vs[n]? with | some u => locV H5 u.2 [] | none => none) | some (.dT vs) => (match vs[n]? with | some u => locV H5 u.2 [] | none => none) | _ => none) = some w := hw
          rw [hp5] at hw
          have hw : (match kvs[n]? with | some u => locV H5 u.2 [] | none => none) = some w := hw
          cases en : kvs[n]? with
          | none => rw [en] at hw; cases hw
          | some u =>
            rw [en] at hw
            have hw : locV H5 u.2 [] = some w := hw
            have ew : u.2 = w := by
              have : locV H5 u.2 [] = some u.2 := by
                obtain ⟨_, u2⟩ := u
                cases u2 <;> rfl
              rw [this] at hw
              injection hw
            have hlen : (pickV kvs ns).length ≤ ns.length := List.length_filterMap_le _ _
            have gD5 : G5 D = none := by rw [g35.old D hpn]; exact gD'
            refine ⟨pickV kvs ns, g35.keep D _ nb hD', by omega, G5, ns ++ [n], (gr.trans g35).own hD gD5 nb, gD5, ?_, fun a ha => ?_, ?_, q5⟩
            · rw [upd_same]
              have : pickV kvs (ns ++ [n]) = pickV kvs ns ++ [w] := by
                unfold pickV
                rw [List.filterMap_append]
                congr 1
                rw [List.filterMap_cons, en, ← ew]
                rfl
              rw [this]
            · rcases List.mem_append.mp ha with ha | ha
              · exact hns a ha
              · rw [List.mem_singleton.mp ha]
                exact (List.getElem?_eq_some_iff.mp en).1
            · rw [List.length_append]
              show ns.length + 1 ≤ j + 1
              omega
      · have e : j = ds.length := by omega
        subst e
        rw [List.drop_length] at hf
        refine .inl ⟨it.stop _ G' H' gr.ex gr.j (Nat.le_refl _), ?_⟩
        obtain ⟨⟨n1, n2⟩, q3⟩ := hf
        have g3 := g2.trans gr
        have b4 : OwnK X.K B G' H' kvs ks f := b3.keep g3.ex fun a ha => by
          have n := b3.node a ha
          refine ⟨?_, g3.old a n.at⟩
          cases w : H a with
          | none => exact absurd w n.at.ne
          | some ob => exact g3.keep a ob (e4 a (List.mem_cons_of_mem _ ha)).2 w
        obtain ⟨f', a1, a2, a3⟩ := b4.pick (List.nodup_cons.mp e3).2 ns n1 hns
        have fD : D ∉ f' := fun z => by
          have n := b3.node D (a3 D z)
          have := n.at.ne
          rw [g2.free hD] at this
          exact this rfl
        exact k.ro _ _ (D :: f') G' H' q3 (g0.trans g3) g3.ex (.lst hD' gD' a1) (List.nodup_cons.mpr ⟨fD, a2⟩) fun a ha => by
          rcases List.mem_cons.mp ha with z | ha
          · subst z; exact ⟨(g0.trans g2).free hD, nb⟩
          · exact e4 a (List.mem_cons_of_mem _ (a3 a ha))
  · exact h.elim
end
section
variable {i n : Nat} {rk rx : DE} {W : DEnds} {δ : DS} {ri : DA} {g : DG} {ρ : DR} {vs : List Nat} {ks : List (D × OD)} {K : List (D × OD) → Prop} {d : D} {ds : List D} {acc : List Nat} {Q : List Nat → Prop} {K2 : D → List OD → Prop} {z : D} {xs : List OD} {r : List (D × OD) × Nat}
theorem z_setdApp : dSetdApp i rk rx W δ = ownO δ[i]? fun v o => dicF o fun ks => rk δ fun y => (keyFit false y = true ∧ ks.length < sizeLine) ∧ sdL (sd1 ks y) fun z xs => rx (δ.set i (some (.ow v (.dic false (sd1 ks y).1)))) fun x =>
  xs.length < sizeLine ∧ W.nx (δ.set i (some (.ow v (.dic false ((sd1 ks y).1.set (sd1 ks y).2 (z, .lst (xs ++ [.sh x]))))))) := propext Iff.rfl
theorem z_dicF : dicF (.dic false ks) K = K ks := propext Iff.rfl
theorem z_sdL (h : r.1[r.2]? = some (z, .lst xs)) : sdL r K2 = K2 z xs := by
  unfold sdL
  rw [h]
theorem z_retVals : dRetVals i ri g ρ vs W δ = ownO δ[i]? fun _ o => dicF o fun ks => ri δ fun ds => ds.length ≤ sizeLine ∧ vL i g ρ (wipeD δ vs) (fun ns => (ns.Nodup ∧ ∀ n ∈ ns, n < ks.length) ∧ W.ro (.lst (pickO ks ns))) ds [] := propext Iff.rfl
theorem vL_c : vL i g ρ δ Q (d :: ds) acc = g d δ fun δ' => ρ δ' fun j π => match π with
    | [n] => j = i ∧ vL i g ρ δ Q ds (acc ++ [n])
    | _ => False := propext Iff.rfl
theorem vL_n : vL i g ρ δ Q [] acc = Q acc := propext Iff.rfl
end
end DL
/-! Dl57: displays {}, {k: v} with a key of any kind, as data -/
namespace L2
open PySem PySem.Spec PyProof.Rows
section
variable {X : Cx} {pos : Pos} {k v : Expr} {tk tv : TE}
def tDispT (tk tv : TE) : TE := fun σ H Q => ∀ p, H p = none → tk σ (upd H p (.dT [])) fun y H1 => tv σ H1 fun x H2 => H2 p = some (.dT []) ∧ ∃ (kk : List Key) (b : Addr), y = .ref b ∧ H2 b = some (.tup (kk.map kV)) ∧ Q (.ref p) (upd H2 p (.dT [(kk, x)]))
theorem pe_dispT (hu : X.A.units < cLine) (hk : PE X k tk) (hv : PE X v tv) : PE X (.Dict [some k] [v] pos) (tDispT tk tv) := by
  refine ⟨fun pins s σ H Q I q => ?_⟩
  have hn := I.hok.fresh (Nat.le_refl s.heap.objs.size)
  have I1 := I.laid (a := s.heap.objs.size) (o := .dT []) (h' := s.heap.push { cls := .type "dict", data := .dict #[] }) (t' := s.toks) (fun _ _ q => Heap.get?_push_of_some _ q) (Nat.le_refl _) (dt_empty s.heap I.big)
  rw [PySem.arm_eval_Dict, zip_pairTrees [some k] [v] X.env pos rfl rfl, dictDisplay_pairs (pairTrees [some k] [v] X.env pos) (by intro z; have := congrArg List.length z; rw [pairTrees_length [some k] [v] X.env pos rfl rfl] at this; simp at this) (by rw [pairTrees_length [some k] [v] X.env pos rfl rfl]; exact (by decide : 1 < 17))]
  refine wpAny_bind (wpAny_standAt (wpAny_bind (PySem.wpAny_subDictH (knd := tupleKind (mixKind X.prog X.w)) hu (by rw [pairTrees_length [some k] [v] X.env pos rfl rfl]; exact (by decide : 1 ≤ 15)) ?_)))
  refine pairTrees_cons_walk (thn (hk.run pins _ σ _ _ I1 (q _ hn)) fun u s1 ⟨y, H1, I2, ry, q1⟩ => thn (hv.run pins s1 σ H1 _ I2 q1) fun w s2 ⟨x, H2, I3, rx, q2⟩ => pairTrees_nil_walk ?_)
  obtain ⟨e, kk, b, ey, eb, q3⟩ := q2
  subst ey
  cases (show u = Value.ref b from ry)
  obtain ⟨z, hd, xs, rel, dd⟩ := dt_of I3.hok e
  have hx : xs = [] := by cases rel; rfl
  subst hx
  refine ⟨[(kk, b, w)], ⟨rfl, rfl, key_of I3.hok eb, trivial⟩, dd, fun h' tk' dd' hs => wpAny_pure ⟨.ref s.heap.objs.size, _, ?_, rfl, q3⟩⟩
  obtain ⟨q, es, ep, hq, h2, h3, h4, _, h5⟩ := dd'
  refine d_write I3 (by rw [e]; exact True.intro) hs ⟨q, hq⟩ ⟨by rw [sizeLine_eq]; show 1 ≤ _; decide, hd, _, (KT.put rel kk eb rx).keeps fun c ys ec => ?_, q, es, ep, hq, h2, h3, h4, h5⟩
  rw [upd_ne (ne_of ec e (fun z => nomatch z))]
  exact ec
end
end L2
namespace DL
open PySem PySem.Spec PyProof.Rows L2 Evl PySem.W
def dDic0 : DE := fun _ Q => Q (.dic [])
def dDic1 (rk rv : DE) : DE := fun δ Q => rk δ fun y => rv δ fun d => (dk1 y).isSome = true ∧ Q (.dic [(y, d)])
def dDicT1 (rk rv : DE) : DE := fun δ Q => rk δ fun y => rv δ fun d => (dkT y).isSome = true ∧ Q (.dic [(y, d)])
section
variable {X : Cx} {B : Bx} {pos : Pos} {k v : Expr} {rk rv : DE}
theorem pd_dic0 : PD X B (.Dict [] [] pos) dDic0 := by
  refine pe_lockR pe_dnewK fun σ H P q p hp => ?_
  obtain ⟨H0, G, δ, Q, j, st, hr, k⟩ := q
  have g1 : Gr X.K B G H G (upd H p (.dK [])) := Gr.new0 j hp
  have nb : p ≠ B.b := Gr.neB j hp
  have gp : G p = none := fresh_back j.ex hp
  refine ⟨p, _, upd_same, trivial, fun od => ?_⟩
  have g2 : Gr X.K B G H G (upd (upd H p (.dK [])) p (.frz od (.dK []))) := g1.own hp gp nb
  exact k _ _ _ _ hr (g2.frz hp gp nb upd_same) (.dK upd_same .nil)
theorem pd_dic1 (hk : PD X B k rk) (hv : PD X B v rv) : PD X B (.Dict [some k] [v] pos) (dDic1 rk rv) := by
  refine pe_lockR (pe_disp (pps_cons hk hv pps_nil) rfl rfl (by simp) (Nat.le_of_ble_eq_true rfl)) fun σ H P q p hp => ?_
  obtain ⟨H0, G, δ, Q, j, st, hr, k⟩ := q
  have g1 : Gr X.K B G H G (upd H p (.dK [])) := Gr.new0 j hp
  have nb : p ≠ B.b := Gr.neB j hp
  have gp : G p = none := fresh_back j.ex hp
  have hpn : Mu (upd H p (.dK [])) p := ⟨_, upd_same, fun _ z => by cases z⟩
  refine ⟨H0, G, δ, _, g1.j, st.gr g1, hr, fun y u G2 H2 q2 g2 d2 => ?_⟩
  refine ⟨H0, G2, δ, _, g2.j, (st.gr g1).gr g2, q2, fun d w G3 H3 q3 g3 d3 => ?_⟩
  obtain ⟨kf, q3⟩ := q3
  obtain ⟨kk, ek⟩ := Option.isSome_iff_exists.mp kf
  have e2 : H2 p = some (.dK []) := g2.keep p _ nb upd_same
  have e3 : H3 p = some (.dK []) := g3.keep p _ nb e2
  have gp2 : G2 p = none := by rw [g2.old p hpn]; exact gp
  have gp3 : G3 p = none := by rw [g3.old p ⟨_, e2, fun _ z => by cases z⟩]; exact gp2
  refine ⟨e3, [(kk, w)], by rw [keyV d2 ek]; rfl, Nat.le_of_ble_eq_true rfl, ?_⟩
  show ∃ d u, _
  have em : mergeK [] [(kk, w)] = [(kk, w)] := rfl
  rw [em]
  refine ⟨p, _, upd_same, trivial, fun od => ?_⟩
  have g4 : Gr X.K B G H G3 (upd (upd H3 p (.dK [(kk, w)])) p (.frz od (.dK [(kk, w)]))) := (((g1.trans g2).trans g3).own hp gp3 nb).own hp gp3 nb
  refine k _ _ _ _ q3 (g4.frz hp gp3 nb upd_same) (.dK upd_same ?_)
  have ey := emb_dk1 ek
  subst ey
  cases kk with
  | inl i => exact .consI (d3.mono (Ex.new gp3)) .nil
  | inr i => exact .consS (d3.mono (Ex.new gp3)) .nil
theorem pd_dicT1 (hu : X.A.units < cLine) (hk : PD X B k rk) (hv : PD X B v rv) : PD X B (.Dict [some k] [v] pos) (dDicT1 rk rv) := by
  refine pe_lockR (pe_dispT hu hk hv) fun σ H P q p hp => ?_
  obtain ⟨H0, G, δ, Q, j, st, hr, k⟩ := q
  have g1 : Gr X.K B G H G (upd H p (.dT [])) := Gr.new0 j hp
  have nb : p ≠ B.b := Gr.neB j hp
  have gp : G p = none := fresh_back j.ex hp
  have hpn : Mu (upd H p (.dT [])) p := ⟨_, upd_same, fun _ z => by cases z⟩
  refine ⟨H0, G, δ, _, g1.j, st.gr g1, hr, fun y u G2 H2 q2 g2 d2 => ?_⟩
  refine ⟨H0, G2, δ, _, g2.j, (st.gr g1).gr g2, q2, fun d w G3 H3 q3 g3 d3 => ?_⟩
  obtain ⟨kf, q3⟩ := q3
  obtain ⟨kk, ek⟩ := Option.isSome_iff_exists.mp kf
  have e2 : H2 p = some (.dT []) := g2.keep p _ nb upd_same
  have e3 : H3 p = some (.dT []) := g3.keep p _ nb e2
  have gp2 : G2 p = none := by rw [g2.old p hpn]; exact gp
  have gp3 : G3 p = none := by rw [g3.old p ⟨_, e2, fun _ z => by cases z⟩]; exact gp2
  obtain ⟨b, eu, gb⟩ := keyT d2 ek
  refine ⟨e3, kk, b, eu, g3.j.ex b _ (g3.ex b _ gb), ?_⟩
  refine ⟨p, _, upd_same, trivial, fun od => ?_⟩
  have g4 : Gr X.K B G H G3 (upd (upd H3 p (.dT [(kk, w)])) p (.frz od (.dT [(kk, w)]))) := (((g1.trans g2).trans g3).own hp gp3 nb).own hp gp3 nb
  refine k _ _ _ _ q3 (g4.frz hp gp3 nb upd_same) (.dT upd_same ?_)
  have ey := emb_dkT ek
  subst ey
  exact .cons (d3.mono (Ex.new gp3)) .nil
end
section
variable {δ : DS} {Q : D → Prop} {rk rv : DE} {d y : D}
theorem z_dic0 : dDic0 δ Q = Q (.dic []) := propext Iff.rfl
theorem z_dic1 : dDic1 rk rv δ Q = rk δ fun y => rv δ fun d => (dk1 y).isSome = true ∧ Q (.dic [(y, d)]) := propext Iff.rfl
theorem z_dicT1 : dDicT1 rk rv δ Q = rk δ fun y => rv δ fun d => (dkT y).isSome = true ∧ Q (.dic [(y, d)]) := propext Iff.rfl
end
end DL
/-! Dl58: a, b = e, f where a name is captured: a tuple is made and taken apart -/
namespace DL
open PySem PySem.Spec PyProof.Rows L2 Evl
section
variable {X : Cx} {B : Bx} {a b : Expr} {rao : OA} {pos : Pos}
theorem psd_par2c {i j : Nat} {x y : Str} {px py pt : Pos} {kt k2 pt2} (hc : X.calm = true) (hN : X.N.Nodup) (hi : X.N[i]? = some x) (hj : X.N[j]? = some y)
    (hx : Loc X.env.scope x) (hy : Loc X.env.scope y) (fx : X.fn x = true ∨ X.env.scope.names.lookup x = some .local) (fy : X.fn y = true ∨ X.env.scope.names.lookup y = some .local) (ha : PAO X B [a, b] rao)
    (hw : swappedStores [.Tuple [.Name x px, .Name y py] kt pt] (.Tuple [a, b] k2 pt2) X.env = pure none := by rfl)
    (hs : swapsWithSole [.Tuple [.Name x px, .Name y py] kt pt] (.Tuple [a, b] k2 pt2) pos.line X.env = pure false := by rfl) (hn : (assignEach [.Name x px, .Name y py] X.env).length = 2 := by rfl) (hst : (assignEach [.Name x px, .Name y py] X.env).findIdx? (·.1) = none := by rfl)
    (h0 : (assignEach [.Tuple [.Name x px, .Name y py] kt pt] X.env).map (·.2) = [assign (.Tuple [.Name x px, .Name y py] kt pt) X.env] := by rfl)
    (h1 : (assignEach (.Name x px :: [.Name y py]) X.env).map (·.2) = assign (.Name x px) X.env :: (assignEach [.Name y py] X.env).map (·.2) := by rfl) (h2 : (assignEach (.Name y py :: []) X.env).map (·.2) = assign (.Name y py) X.env :: (assignEach [] X.env).map (·.2) := by rfl) :
    PSD X B (.Assign [.Tuple [.Name x px, .Name y py] kt pt] (.Tuple [a, b] k2 pt2) pos) (dPar2 i j rao) := ps_mono (ps_asg (pe_tup ha) (pg_tup (n := 2) hc (pgs_cons (pg_name hN hi hx fx) (pgs_cons (pg_name hN hj hy fy) pgs_nil h2) h1) hn hst) hs hw h0) fun E σ H q => by
  obtain ⟨G0, H0, G, δ, W, g, s, h, k⟩ := q
  refine ⟨H0, G, δ, _, g.j, s, h, fun os vs f G2 H2 q2 g2 h2 f2 => ?_⟩
  cases h2 with
  | nil => exact q2.elim
  | @cons v1 o1 f1 _ _ _ h3 h4 =>
    cases h4 with
    | nil => exact q2.elim
    | @cons v2 o2 f2' _ _ _ h5 h6 =>
      cases h6 with
      | cons _ _ => exact q2.elim
      | nil =>
        have q2 : ∀ u v, W.nx ((δ.set i (some (slotOf u o1))).set j (some (slotOf v o2))) := q2
        rw [List.append_nil] at f2
        obtain ⟨n1, n2, n3⟩ := List.nodup_append.mp f2.1
        have a1 : ∀ p ∈ f1, H0 p = none ∧ p ≠ B.b := fun p hp => (f2.back g).2 p (List.mem_append_left _ hp)
        have a2 : ∀ p ∈ f2', H0 p = none ∧ p ≠ B.b := fun p hp => (f2.back g).2 p (List.mem_append_right _ hp)
        refine ⟨sz1000 (Nat.le_of_ble_eq_true rfl), fun t ht => ⟨t, [v1, v2], rfl, st_of upd_same, rfl, v1, [v2], rfl, v2, [], rfl, rfl, ?_⟩⟩
        have g3 : Gr X.K B G2 H2 G2 (L2.upd H2 t (.tup [v1, v2])) := Gr.new0 g2.j ht
        obtain ⟨F, y0⟩ := s.ex
        have y2 := (y0.gr g2).gr g3
        have nw := fresh_new (G2 := G2) (H2 := L2.upd H2 t (.tup [v1, v2])) y0 f2
        have k3 := h3.keep (Ex.refl G2) (g3.kept fun p hp => ⟨(h3.node p hp).at, (a1 p hp).2⟩)
        have k5 := h5.keep (Ex.refl G2) (g3.kept fun p hp => ⟨(h5.node p hp).at, (a2 p hp).2⟩)
        obtain ⟨F1, y3, s3⟩ := st_setF (i := i) y2 k3 n1 a1 fun l hl p hp => nw l hl p (List.mem_append_left _ hp)
        obtain ⟨F2, y4, _⟩ := st_setF (i := j) y3 k5 n2 a2 fun l hl p hp hq => by
          rw [List.length_set] at hl
          rcases s3 l hl p hq with z | z
          · exact n3 p z p hp rfl
          · exact nw l hl p (List.mem_append_right _ hp) z
        exact k.nx _ _ G2 _ (q2 v1 v2) ((g.trans g2).trans g3) (g2.trans g3).ex ⟨F2, y4⟩
end
end DL
/-! Dl59: d != e, dicts -/
namespace PySem.W
open PySem PySem.Spec PyProof.Rows
section
variable {K : Type} [DecidableEq K] {prog : Program} {w : World} {A : Around} {s : Shared} {knd : KeyKind prog w K}
theorem rcP_ne {a b : Addr} {ka kb : List (K × Value)} {r : Bool} (ha : (a == sysModules) = false) (hb : (b == sysModules) = false)
    (da : s.heap.DictOf knd a ka) (db : s.heap.DictOf knd b kb) (hu : A.units < cLine) (hits : ka.length = kb.length → KeqHitsP prog w A.in1 s kb ka r) (E Q : Value → Shared → Prop) (h : Q (.bool (!(ka.length == kb.length && r))) s) : wpAny (model prog w) A (richCompare .NotEq (.ref a) (.ref b)) Q E s := by
  refine wpAny_richCompare_same_room (op := .NotEq) da.typeIs db.typeIs PySem.F.slot_dict_ne (wpAny_call_entry PySem.F.slot_dict_ne da.typeIs PySem.F.entry_dict_ne ?_ (PySem.F.args_dict_ne_2 _ _)) hu
  show wpAny _ _ (Builtin.Dict.dictSlotArgs "__ne__" ⟨[.ref a, .ref b], []⟩ >>= _) _ _ s
  refine wpAny_bind ?_
  unfold Builtin.Dict.dictSlotArgs
  refine wpAny_bind (wpAny_notOrdered_dict da.typeIs ?_)
  show wpAny _ _ (pure (Value.ref a, Value.ref b)) _ _ s
  refine wpAny_pure ?_
  refine wpAny_bind (wpAny_isInstance (T := "dict") db.typeIs PySem.F.sub_dict_dict ?_)
  simp only [Bool.not_true, Bool.false_eq_true, if_false]
  refine wpAny_bind (wpAny_pure (wpAny_bind (wpAny_pure ?_)))
  refine wpAny_bind (samePairsP ha hb da db hits ?_)
  refine wpAny_pure ⟨_, rfl, ?_, ?_⟩
  · exact fun x => nomatch x
  · simpa using h
end
end PySem.W
namespace DL
open PySem PySem.Spec PyProof.Rows L2 Evl PySem.W
section
variable {X : Cx} {B : Bx}
theorem op_neDD (hu : X.A.units + 66 < cLine) : OpR X (compareOp .NotEq) (rLift X.K B (oEqD true)) := by
  intro pins s σ H x y v u P I rx ry h
  obtain ⟨G, dx, dy, Q, j, hx, hy, hq, k⟩ := h
  cases dx with
  | dic ks =>
    cases dy with
    | dic ls =>
      obtain ⟨⟨p1, p2, kf⟩, q⟩ := hq
      have kk := k _ _ G H q (Gr.refl j) (.bl _)
      rcases kfit_or kf with ⟨f1, f2⟩ | ⟨f1, f2⟩
      · obtain ⟨a, kvs, va, rfl, d1, r1, s1, h1⟩ := dic_K I j.ex hx f1
        obtain ⟨b, lvs, vb, rfl, d2, r2, s2, h2⟩ := dic_K I j.ex hy f2
        cases rx
        cases ry
        refine rcP_ne s1 s2 h1 h2 (by omega) (fun _ => hitsK d2 r2 d1 r1 (allB_plain I j.ex (show X.A.units + 1 + 64 < cLine by omega) p1 p2)) _ _ ?_
        refine ⟨.bl _, H, I, rfl, ?_⟩
        have e1 : va.length = ks.length := by rw [← Paired.length r1, d1.len]
        have e2 : vb.length = ls.length := by rw [← Paired.length r2, d2.len]
        rw [e1, e2]
        simp only [if_true] at kk
        rw [eqG] at kk
        exact kk
      · obtain ⟨a, kvs, va, rfl, d1, r1, s1, h1⟩ := dic_T I j.ex hx f1
        obtain ⟨b, lvs, vb, rfl, d2, r2, s2, h2⟩ := dic_T I j.ex hy f2
        cases rx
        cases ry
        refine rcH_ne s1 s2 h1 h2 (by omega) (fun _ => hitsT d2 r2 d1 r1 (allB_plain I j.ex (show X.A.units + 1 + 64 < cLine by omega) p1 p2)) _ _ ?_
        refine ⟨.bl _, H, I, rfl, ?_⟩
        have e1 : va.length = ks.length := by rw [← Paired.length r1, d1.len]
        have e2 : vb.length = ls.length := by rw [← Paired.length r2, d2.len]
        rw [e1, e2]
        simp only [if_true] at kk
        rw [eqG] at kk
        exact kk
    | _ => exact hq.elim
  | _ => exact hq.elim
end
section
variable {Q : D → Prop} {ks ls : List (D × D)}
theorem z_neDD : oEqD true (.dic ks) (.dic ls) Q = ((valsP ks = true ∧ valsP ls = true ∧ kfit ks ls = true) ∧ Q (.bl (!eqG (.dic ks) (.dic ls)))) := propext Iff.rfl
end
end DL
/-! Dl60: t[::-1], t a tuple -/
namespace HT
open PySem PySem.Spec PyProof.Rows L2
section
variable {prog : Program} {w : World} {A : Around} {E : Value → Shared → Prop} {s : Shared}
theorem sliceApplied_rev {sl : Addr} {vl vu vs : Value} {n : Nat} {Q : Int × Int × Nat → Shared → Prop} (hs : s.heap.IsSliceOf sl vl vu vs) (pl : IsPart vl none) (pu : IsPart vu none) (ps : IsPart vs (some (-1)))
    (h : Q ((n : Int) - 1, -1, n) s) : wpAny (model prog w) A (Builtin.Slice.sliceApplied (.ref sl) (pure (n : Int))) Q E s := by
  obtain ⟨os, hos, hcs, hds⟩ := id hs
  unfold Builtin.Slice.sliceApplied Builtin.Slice.sliceFields
  refine wpAny_bind (wpAny_bind (wpAny_field hos hds (x := vl) rfl (wpAny_bind (wpAny_field hos hds (x := vu) rfl (wpAny_bind (wpAny_field hos hds (x := vs) rfl (wpAny_pure ?_)))))))
  refine wpAny_bind (slicePart_ ps ?_)
  show wpAny _ _ (if ((-1 : Int) == 0) = true then _ else _) _ _ s
  rw [if_neg (by decide)]
  refine wpAny_bind (slicePart_ pl (wpAny_bind (slicePart_ pu (wpAny_bind (wpAny_pure ?_)))))
  show wpAny _ _ (pure ((n : Int) - 1, (-1 : Int), Builtin.Slice.slicePlaces ((n : Int) - 1) (-1) (-1))) _ _ s
  have e : Builtin.Slice.slicePlaces ((n : Int) - 1) (-1) (-1) = n := by
    unfold Builtin.Slice.slicePlaces
    rw [if_neg (by decide)]
    by_cases h : (n : Int) - 1 > -1
    · rw [if_pos h, show (- -1 : Int) = 1 by decide, Int.ediv_one]
      omega
    · rw [if_neg h]
      omega
  rw [e]
  exact wpAny_pure h
theorem pick_rev (xs : Array Value) : ((List.range xs.size).filterMap fun (m : Nat) => xs[(((xs.size : Int) - 1) + (m : Int) * -1).toNat]?).toArray = xs.toList.reverse.toArray := by
  have e : ((List.range xs.size).filterMap fun (m : Nat) => xs[(((xs.size : Int) - 1) + (m : Int) * -1).toNat]?) = ((List.range xs.size).map fun k => xs.size - 1 - k).filterMap (xs[·]?) := by
    rw [List.filterMap_map]
    congr 1
    funext m
    show xs[_]? = xs[xs.size - 1 - m]?
    congr 1
    omega
  rw [e, PySem.W.krv_range, List.filterMap_reverse, PySem.W.krv_all]
theorem getItem_tuple_rev {t sl : Addr} {items : Array Value} {vl vu vs : Value} {Q : Value → Shared → Prop} (ht : IsTup s.heap t items) (hs : s.heap.IsSliceOf sl vl vu vs) (pl : IsPart vl none) (pu : IsPart vu none) (ps : IsPart vs (some (-1)))
    (h : Q (.ref s.heap.objs.size) { s with heap := s.heap.push { cls := .type "tuple", data := .seq items.toList.reverse.toArray } })
    (hsz : items.size ≤ sizeLine) : wpAny (model prog w) A (getItem (.ref t) (.ref sl)) Q E s := by
  have htake : sizeOk (.seq items.toList.reverse.toArray) := by
    show items.toList.reverse.toArray.size ≤ sizeLine
    rw [List.size_toArray, List.length_reverse, Array.length_toList]
    omega
  obtain ⟨os, hos, hcs, hds⟩ := id hs
  have hTs : s.TypeIs (.ref sl) "slice" := ⟨os, hos, hcs⟩
  unfold getItem
  try with_reducible refine wpAny_holding ?_
  first | refine wpAny_bind (wpAny_pure ?_) | skip
  refine wpAny_bind (wpAny_sequenceKey ht.typeIs (by decide) ?_)
  refine wpAny_bind (wpAny_callSpecial?_slot (name := Str.ofString "__getitem__") ht.typeIs PyProof.Rows.slot_tuple_getitem
    (wpAny_call_entry PyProof.Rows.slot_tuple_getitem ht.typeIs entry_tuple_getitem ?_ (args_tuple_getitem _ _)))
  show wpAny _ _ (Builtin.Tuple.tupleItemsOf (.ref t) >>= _) _ _ s
  refine wpAny_bind (tupleItemsOf_ ht ?_)
  refine wpAny_bind (wpAny_typeOf hTs ?_)
  rw [if_pos (by decide)]
  refine wpAny_bind (sliceApplied_rev hs pl pu ps ?_)
  have hno : ¬ ((((items.size : Int) - 1) == 0 && (-1 : Int) == 1 && items.size == items.size) = true) := by
    intro q
    rw [Bool.and_eq_true, Bool.and_eq_true] at q
    exact absurd q.1.2 (by decide)
  show wpAny _ _ (if (((items.size : Int) - 1) == 0 && (-1 : Int) == 1 && items.size == items.size) = true then _ else _) _ _ s
  rw [if_neg hno, pick_rev]
  first
    | exact wpAny_bind (m := Builtin.Tuple.tupleExact _) (wpAny_newObj_type (wpAny_pure ⟨_, rfl, wpAny_pure h⟩) htake)
    | exact wpAny_bind (m := Builtin.Tuple.tupleExact _) (wpAny_newObj_type (wpAny_bind (wpAny_pure (wpAny_pure ⟨_, rfl, wpAny_pure h⟩))) htake)
    | exact wpAny_bind (wpAny_bind (m := Builtin.Tuple.tupleExact _) (wpAny_newObj_type (wpAny_pure (wpAny_pure ⟨_, rfl, wpAny_pure h⟩)) htake))
    | exact wpAny_bind (wpAny_bind (m := Builtin.Tuple.tupleExact _) (wpAny_newObj_type (wpAny_pure ⟨_, rfl, wpAny_pure h⟩) htake))
end
end HT
namespace L2
open PySem PySem.Spec PyProof.Rows
def tRevT (K : PySem.W.Frag) (te : TE) : TE := fun σ H Q => te σ H fun x H1 => ∃ a xs, x = .ref a ∧ SqT K H1 a xs ∧ ∀ p, H1 p = none → Q (.ref p) (upd H1 p (.tup xs.reverse))
section
variable {X : Cx}
theorem pe_revT {e : Expr} {te : TE} {k : Nat} {p1 p2 p3 pos : Pos} (he : PE X e te) : PE X (.Subscript e (.Slice none none (some (.UnaryOp .USub (.Constant (.int 1) k p1) p2)) p3) pos) (tRevT X.K te) := by
  refine ⟨fun pins s σ H Q I h => ?_⟩
  refine Subscript_ (thn (he.run pins s σ H _ I h) fun v s1 ⟨x, H1, I1, r1, q1⟩ => ?_)
  obtain ⟨a, xs, ex, hx, q⟩ := q1
  subst ex
  cases r1
  have hst : PO X (some (.UnaryOp .USub (.Constant (.int 1) k p1) p2)) (tPart (tUn (rU fun i => .int (-i)) (tC (.int 1)))) := po_some (pe_un un_neg pe_int)
  refine wpAny_Slice (thn (po_none.run pins s1 σ H1 (fun o H2 => o = none ∧ H2 = H1) I1 ⟨rfl, rfl⟩) fun vl s2 ⟨l, H2, I2, pl, el, e2⟩ => ?_)
  subst el e2
  refine thn (po_none.run pins s2 σ H2 (fun o H3 => o = none ∧ H3 = H2) I2 ⟨rfl, rfl⟩) fun vu s3 ⟨u, H3, I3, pu, eu, e3⟩ => ?_
  subst eu e3
  refine thn (hst.run pins s3 σ H3 (fun o H4 => o = some (-1) ∧ H4 = H3) I3 ⟨1, rfl, -1, rfl, rfl, rfl⟩) fun vs s4 ⟨o, H4, I4, ps, eo, e4⟩ => ?_
  subst eo e4
  have I5 : Inv X pins σ H4 { s4 with heap := s4.heap.push { cls := .type "slice", data := .fields #[vl, vu, vs] } } := I4.kept (t' := s4.toks) fun b ob q => Heap.get?_push_of_some _ q
  obtain ⟨its, r, ht, hz⟩ := I5.tuple hx
  have hlen := r.length
  show wpAny (model X.prog X.w) X.A (subscriptTail e (.Slice none none (some (.UnaryOp .USub (.Constant (.int 1) k p1) p2)) p3) (.ref a) (.ref s4.heap.objs.size)) (EP X pins σ Q) X.xe { s4 with heap := s4.heap.push { cls := .type "slice", data := .fields #[vl, vu, vs] } }
  refine tail_any (ops := [.ref a, .ref s4.heap.objs.size]) ht.typeIs (PyProof.Rows.slot_tuple_getitem.lookup) ?_ (by with_unfolding_all rfl)
  refine HT.getItem_tuple_rev ht (Heap.IsSliceOf.new _ vl vu vs) pl pu ps ?_ (by rw [List.size_toArray]; omega)
  refine ⟨.ref _, _, I5.laid (t' := s4.toks) (o := .tup xs.reverse) (fun b ob q => Heap.get?_push_of_some _ q) (Nat.le_refl _) ?_, rfl, q _ (I5.hok.fresh (Nat.le_refl _))⟩
  exact ⟨by rw [List.length_reverse]; exact hz, _, r.reverse, IsTup.new _ _⟩
end
end L2
namespace DL
open PySem PySem.Spec PyProof.Rows L2 Evl
def revT (x : D) (Q : D → Prop) : Prop := match x with
  | .tup xs => Q (.tup xs.reverse)
  | _ => False
def dRevT (ra : DE) : DE := fun δ Q => ra δ fun x => revT x Q
section
variable {X : Cx} {B : Bx} {e : Expr} {ra : DE} {pos : Pos}
theorem pd_revT {k : Nat} {p1 p2 p3 : Pos} (ha : PD X B e ra) : PD X B (.Subscript e (.Slice none none (some (.UnaryOp .USub (.Constant (.int 1) k p1) p2)) p3) pos) (dRevT ra) := pe_mono (pe_revT ha) fun σ H P q => by
  obtain ⟨H0, G, δ, Q, j, st, hr, k⟩ := q
  refine ⟨H0, G, δ, _, j, st, hr, fun x v G2 H2 q2 g2 h2 => ?_⟩
  cases h2 with
  | @tup a vs ds h4 h5 =>
    refine ⟨_, _, rfl, tx g2.j.ex h4, fun p hp => ?_⟩
    have g3 := Gr.new (o := .tup vs.reverse) g2.j hp
    exact k _ _ _ _ q2 (g2.trans g3) (.tup upd_same (h5.reverse.mono g3.ex))
  | _ => exact q2.elim
end
section
variable {ra : DE} {δ : DS} {Q : D → Prop} {xs : List D}
theorem z_revT : dRevT ra δ Q = ra δ fun x => revT x Q := propext Iff.rfl
theorem z_revTt : revT (.tup xs) Q = Q (.tup xs.reverse) := propext Iff.rfl
end
end DL
/-! Dl61: x.replace("a", "b"): the state has given out a token -/
namespace L2
open PySem PySem.Spec PyProof.Rows
section
variable {X : Cx} {e a b : Expr} {t t' ta tb te : TE} {pos : Pos}
theorem pet_mono (h : PET X e t) (m : ∀ σ H Q, t' σ H Q → t σ H Q) : PET X e t' := fun pins s σ H Q h0 I q => h pins s σ H Q h0 I (m σ H Q q)
theorem pat_mono {es : List Expr} {t t' : TA} (h : PAT X es t) (m : ∀ σ H Q, t' σ H Q → t σ H Q) : PAT X es t' := fun pos pins s σ H Q h0 I q => h pos pins s σ H Q h0 I (m σ H Q q)
theorem pst_mono {st : Stmt} {t t' : TS} (h : PST X st t) (m : ∀ D σ H, t' D σ H → t D σ H) : PST X st t' := fun pins s σ H D h0 I q => h pins s σ H D h0 I (m D σ H q)
theorem psst_mono {st : List Stmt} {t t' : TS} (h : PSsT X st t) (m : ∀ D σ H, t' D σ H → t D σ H) : PSsT X st t' := fun pins s σ H D h0 I q => h pins s σ H D h0 I (m D σ H q)
theorem PSsT.nox {st : List Stmt} {t : TS} (h : PSsT X.nox st t) : PSsT X st t := fun pins s σ H D h0 I hw =>
  wpAny_mono (h pins s σ H D h0 (I.wish _) hw) (fun _ _ q => q.unwish) fun _ _ z => False.elim z
theorem pet_cmpR {op : CmpOp} {r : R2} (ho : OpR X (compareOp op) r) (ha : PET X a ta) (hb : PE X b tb) (hm : behindInMarks op b = false) : PET X (.Compare a [op] [b] pos) (tOp r ta tb) := fun pins s σ H Q h0 I h =>
  wpAny_Compare1 (thn (ha pins s σ H _ h0 I h) fun v s1 ⟨x, H1, I1, r1, q1⟩ => thn (hb.run pins s1 σ H1 _ I1 q1) fun u s2 ⟨y, H2, I2, r2, q2⟩ => ho pins s2 σ H2 x y v u Q I2 r1 r2 q2) hm
theorem pst_set {i : Nat} {x : Str} {pos' : Pos} (hN : X.N.Nodup) (hi : X.N[i]? = some x) (hx : Loc X.env.scope x) (he : PET X e te) (hs : swapsWith e (some (.Name x pos')) pos.line X.env = pure false := by rfl) (hf : X.fn x = true ∨ X.env.scope.names.lookup x = some .local := by first | exact .inl rfl | exact .inr rfl | assumption) :
    PST X (.Assign [.Name x pos'] e pos) (tAsg te (gName i)) := fun pins s σ H D h0 I h =>
  wpAny_Assign_Name (thn (he pins s σ H _ h0 I h) fun v s1 ⟨y, H1, I1, r1, q1⟩ => store_ok I1 hN hi hx r1 (fun s2 I2 => ⟨_, H1, I2, q1⟩) hf) hs
end
end L2
namespace DL
open PySem PySem.Spec PyProof.Rows L2 Evl
def replQ (x : D) (y z : Str) (Q : D → Prop) : Prop := match x with
  | .str x => x.length + (x.length + 1) * z.length ≤ 16777216 ∧ Q (.str (Txt.replace x y z))
  | _ => False
def dRepl (r : DE) (y z : Str) : DE := fun δ Q => r δ fun x => replQ x y z Q
section
variable {X : Cx} {B : Bx} {e o a b : Expr} {r ra rb : DE} {t u : DTS} {y z : Str} {j k : Nat} {c0 c1 apos pos : Pos} {st : Stmt} {rest : List Stmt} {es : List Expr}
abbrev PDT (X : Cx) (B : Bx) (e : Expr) (r : DE) : Prop := PET X e (liftE X.K B r)
abbrev PADT (X : Cx) (B : Bx) (es : List Expr) (r : DA) : Prop := PAT X es (liftA X.K B r)
abbrev PFT (X : Cx) (B : Bx) (e : Expr) (r : DA) : Prop := PET X e (liftF X.K B r)
abbrev PSDT (X : Cx) (B : Bx) (st : Stmt) (t : DTS) : Prop := PST X st (liftS X.K B t)
abbrev PSsDT (X : Cx) (B : Bx) (st : List Stmt) (t : DTS) : Prop := PSsT X st (liftS X.K B t)
theorem pdt_of (h : PD X B e r) : PDT X B e r := fun pins s σ H Q _ I q => h.run pins s σ H Q I q
theorem lift_repl {σ : L2.St} {H : Hp} {P : VK} (q : liftE X.K B (dRepl r y z) σ H P) : CwR.tReplC (liftE X.K B r) y z σ H P := by
  obtain ⟨H0, G, δ, Q, j, st, hr, k⟩ := q
  refine ⟨H0, G, δ, _, j, st, hr, fun d v G2 H2 q2 g2 h2 => ?_⟩
  cases h2 with
  | str x => exact ⟨x, rfl, q2.1, k _ _ G2 H2 q2.2 g2 (.str _)⟩
  | _ => exact q2.elim
theorem pdt_repl (ho : PD X B o r) (hyz : (y == z) = false := by decide)
    (hst : starEach [.Constant (.str y) j c0, .Constant (.str z) k c1] X.env = [(false, eval (.Constant (.str y) j c0) X.env), (false, eval (.Constant (.str z) k c1) X.env)] := by rfl)
    (hbase : attributeBase o "replace" X.env (eval o X.env) = eval o X.env := by rfl) (hline : (apos.endLine == pos.line) = true := by rfl) :
    PDT X B (.Call (.Attribute o "replace" apos) [.Constant (.str y) j c0, .Constant (.str z) k c1] [] pos) (dRepl r y z) := pet_mono (CwR.pet_replC ho hyz hst hbase hline) fun _ _ _ q => lift_repl q
theorem pdt_replT (ho : PDT X B o r) (hyz : (y == z) = false := by decide)
    (hst : starEach [.Constant (.str y) j c0, .Constant (.str z) k c1] X.env = [(false, eval (.Constant (.str y) j c0) X.env), (false, eval (.Constant (.str z) k c1) X.env)] := by rfl)
    (hbase : attributeBase o "replace" X.env (eval o X.env) = eval o X.env := by rfl) (hline : (apos.endLine == pos.line) = true := by rfl) :
    PDT X B (.Call (.Attribute o "replace" apos) [.Constant (.str y) j c0, .Constant (.str z) k c1] [] pos) (dRepl r y z) := pet_mono (CwR.pet_replT ho hyz hst hbase hline) fun _ _ _ q => lift_repl q
theorem pdt_cmp {op : CmpOp} {o : O2} (h : OpR X (compareOp op) (rLift X.K B o)) (ha : PDT X B a ra) (hb : PD X B b rb) (hm : behindInMarks op b = false) : PDT X B (.Compare a [op] [b] pos) (dOp o ra rb) := pet_mono (pet_cmpR h ha hb hm) fun _ _ _ q => lift2 q
theorem padt_nil : PADT X B [] dNil := fun pos pins s σ H Q _ I q => (pad_nil (X := X) (B := B)).run pos pins s σ H Q I q
theorem padt_cons {ra : DA} (h : PDT X B e r) (ha : PADT X B es ra) (hs : starEach (e :: es) X.env = (false, eval e X.env) :: starEach es X.env := by rfl) : PADT X B (e :: es) (dCons r ra) := pat_mono (pat_cons h ha hs) fun σ H P q => by
  obtain ⟨H0, G, δ, Q, j, st, hr, k⟩ := q
  refine ⟨H0, G, δ, _, j, st, hr, fun d v G2 H2 q2 g2 h2 => ?_⟩
  refine ⟨H0, G2, δ, _, g2.j, st.gr g2, q2, fun ds vs G3 H3 q3 g3 h3 => ?_⟩
  exact k _ _ G3 H3 q3 (g2.trans g3) (.cons (h2.mono g3.ex) h3)
theorem pft_lst {ra : DA} (h : PADT X B es ra) : PFT X B (.List es pos) (fLst ra) := pet_mono (pet_lst h) fun σ H P q => by
  obtain ⟨H0, G, δ, Q, j, st, hr, k⟩ := q
  refine ⟨H0, G, δ, _, j, st, hr, fun ds vs G2 H2 q2 g2 h2 => ?_⟩
  cases hz : decide (ds.length ≤ 1000) with
  | false => rw [hz] at q2; exact q2.elim
  | true =>
    rw [hz] at q2
    refine ⟨sz1000 (by rw [h2.len]; exact of_decide_eq_true hz), fun p hp => ?_⟩
    exact pf_new k g2 hp h2 q2
theorem pdt_f {ra : DA} (h : PFT X B e ra) : PDT X B e (dF ra) := pet_mono h fun σ H P q => by
  obtain ⟨H0, G, δ, Q, j, st, hr, k⟩ := q
  refine ⟨H0, G, δ, _, j, st, hr, fun ds p vs G2 H2 q2 g2 hp gp h2 hd => ?_⟩
  exact k _ _ _ _ q2 (g2.frz hp gp (Gr.neB j hp) h2) (.lst upd_same (hd.mono (Ex.new gp)))
theorem psdt_of (h : PSD X B st t) : PSDT X B st t := fun pins s σ H D _ I q => h.run pins s σ H D I q
theorem psst_of (h : PSsD X B rest t) : PSsDT X B rest t := fun pins s σ H D _ I q => h.run pins s σ H D I q
theorem psdt_cons (h1 : PSDT X B st t) (h2 : PSsDT X B rest u) : PSsDT X B (st :: rest) (dSeq t u) := psst_mono (psst_cons h1 h2) fun E σ H q => by
  obtain ⟨G0, H0, G, δ, W, g, s, h, k⟩ := q
  exact ⟨G0, H0, G, δ, _, g, s, h, ⟨fun σ' δ' G2 H2 q2 g2 e2 s2 => ⟨G0, H0, G2, δ', W, g2, s2, q2, k.up e2⟩, k.bk, k.ct, k.rt, k.ro⟩⟩
theorem psdt_one (h1 : PSDT X B st t) : PSsDT X B [st] t := psst_mono (CwR.psst_one h1) fun _ _ _ q => q
theorem psdt_ret (h : PDT X B e r) : PSDT X B (.Return (some e) pos) (dRet r) := pst_mono (CwR.pst_ret h) fun E σ H q => by
  obtain ⟨G0, H0, G, δ, W, g, s, h, k⟩ := q
  exact at_stmt g s h fun d v G2 H2 q2 g2 e2 _ h2 => k.rt d v G2 H2 q2 g2 e2 h2
theorem psdt_set {i : Nat} {x : Str} {pos' : Pos} (hN : X.N.Nodup) (hi : X.N[i]? = some x) (hx : Loc X.env.scope x) (he : PDT X B e r) (hs : swapsWith e (some (.Name x pos')) pos.line X.env = pure false := by rfl) (hf : X.fn x = true ∨ X.env.scope.names.lookup x = some .local := by first | exact .inl rfl | exact .inr rfl | assumption) :
    PSDT X B (.Assign [.Name x pos'] e pos) (dSet i r) := pst_mono (pst_set hN hi hx he hs hf) fun E σ H q => by
  obtain ⟨G0, H0, G, δ, W, g, s, h, k⟩ := q
  exact at_stmt g s h fun d v G2 H2 q2 g2 e2 s2 h2 => k.nx _ _ G2 H2 q2 g2 e2 (s2.set h2)
end
section
variable {P : Program} {w : World} {K : PySem.W.Frag} {mg : Str → Option Value} {base : Heap}
/-- a def with a parameter, no captured name: a token is out when its body begins -/
theorem fn_dT {x qual : Str} {st : Stmt} {f : Addr} {fd : FuncData} {N ps : List Str} {k : Nat} {B : Bx} {S : FD} {t : DTS} (F : Fun K x qual st f fd) (Sc : FnScope N ps (defScope st)) (hnc : ∀ y ∈ (defScope st).names, y.2 ≠ .cell) (hps : 1 ≤ ps.length) (len : ∀ ds Q, S ds Q → ds.length = ps.length)
    (hbody : ∀ (cdv : Value) (A : Around) (outer : List Env) (s : Shared) (H : Hp) (E : XK), Room k (A.deeper (envOfC qual (defScope st) s.heap.objs.size f cdv)) → PSsDT (cxOf CX0 P w K mg base N qual (defScope st) f cdv A outer s H E).nox B (defBody st) t)
    (vc : ∀ ds Q, S ds Q → t { nx := fun _ => Q .non, rt := Q } (startD N.length ds)) : FnOk P w K mg base CX0 (k + 1) f fd ps (spD K B S) := by
  obtain ⟨oc, od, kV, doc, pm, an, cdv, ct, osl, rfl, lk, hcd⟩ := F.ex
  refine fn_ofT lk hcd Sc hnc hps (fun vs H Q E h => ?_) (fun A outer s H vs Q E hr h => ⟨_, (hbody cdv A outer s H E hr).nox, ?_⟩)
  · obtain ⟨G, ds, R, j, hd, hs, _⟩ := h
    rw [hd.len]
    exact len ds R hs
  · obtain ⟨G, ds, R, j, hd, hs, kk⟩ := h
    refine ⟨G, H, G, startD N.length ds, _, Gr.refl j, start_ok hd, vc ds R hs, ⟨?_, ?_, ?_, ?_, ?_⟩⟩
    · exact fun σ δ G2 H2 q g _ s2 => kk .non .non G2 H2 q g .non
    · exact fun σ δ G2 H2 q g _ s2 => q.elim
    · exact fun σ δ G2 H2 q g _ s2 => q.elim
    · exact fun d v G2 H2 q g _ hd => kk d v G2 H2 q g hd
    · exact fun o v f G2 H2 q => q.elim
end
section
variable {r : DE} {δ : DS} {Q : D → Prop} {x y z : Str}
theorem z_repl : dRepl r y z δ Q = r δ fun x => replQ x y z Q := propext Iff.rfl
theorem z_replS : replQ (.str x) y z Q = (x.length + (x.length + 1) * z.length ≤ 16777216 ∧ Q (.str (Txt.replace x y z))) := propext Iff.rfl
end
end DL
/-! Dl62: x.upper(); or with a token -/
namespace DL
open PySem PySem.Spec PyProof.Rows L2 Evl
def mUpper : OM := fun x ds Q => match x, ds with
  | .str a, [] => a.length ≤ 5592405 ∧ Q (.str (Txt.upper a))
  | _, _ => False
section
variable {X : Cx} {B : Bx}
theorem mt_upper_d : MtR X "str.upper" (mLift X.K B mUpper) := by
  intro pins s σ H x xs v us P I rx rs q
  obtain ⟨G, d, ds, Q, j, hx, hd, hq, k⟩ := q
  cases hx with
  | str a =>
    cases hd with
    | nil => exact mt_upper pins s σ H _ _ v us P I rx rs ⟨a, rfl, rfl, hq.1, k _ _ G H hq.2 (Gr.refl j) (.str _)⟩
    | cons h1 h2 => exact hq.elim
  | _ => cases ds <;> exact hq.elim
end
section
variable {a : Str} {Q : D → Prop}
theorem z_upper : mUpper (.str a) [] Q = (a.length ≤ 5592405 ∧ Q (.str (Txt.upper a))) := propext Iff.rfl
end
end DL
/-! Dlz: the evaluator's further lemmas in bundles -/
namespace DL
open PySem PySem.Spec PyProof.Rows L2 Evl
theorem zHd0 : (type_of% @z_dgetK) ∧ (type_of% @z_inKD) ∧ (type_of% @z_ninKD) ∧ (type_of% @z_iKeys) ∧ (type_of% @z_keysD) ∧ (type_of% @z_lenD) ∧ (type_of% @z_sorted) ∧ (type_of% @z_srtL) ∧ (type_of% @z_srtD) ∧ (type_of% @z_eqDD) ∧ (type_of% @z_reprD) ∧ (type_of% @z_eqAd) ∧ (type_of% @z_eqAl) ∧ (type_of% @z_eqAt) ∧ (type_of% @z_eqAi) ∧ (type_of% @z_eqAs) ∧ (type_of% @z_eqAb) ∧ (type_of% @z_eqAn) ∧ (type_of% @z_rpAd) ∧ (type_of% @z_rpAl) ∧ (type_of% @z_rpAt) ∧ (type_of% @z_rpAi) ∧ (type_of% @z_rpAs) ∧ (type_of% @z_rpAb) ∧ (type_of% @z_rpAn) ∧ (type_of% @z_dcO) ∧ (type_of% @z_rDx) ∧ (type_of% @z_dc) ∧ (type_of% @z_rev) ∧ (type_of% @z_revL) ∧ (type_of% @z_dictP) ∧ (type_of% @z_pCat) ∧ (type_of% @z_pLc) ∧ (type_of% @z_dget2K) ∧ (type_of% @z_kg2D) ∧ (type_of% @z_gUt) ∧ (type_of% @z_gUl) ∧ (type_of% @z_sortSc) ∧ (type_of% @z_sortSetT) ∧ (type_of% @z_updR) ∧ (type_of% @z_updQ) ∧ (type_of% @z_pl) ∧ (type_of% @z_shAS) ∧ (type_of% @z_setdApp) ∧ (type_of% @z_dicF) ∧ (type_of% @z_retVals) ∧ (type_of% @z_fBor) ∧ (type_of% @z_dic0) ∧ (type_of% @z_dic1) ∧ (type_of% @z_dicT1) ∧ (type_of% @z_neDD) ∧ (type_of% @z_revT) ∧ (type_of% @z_revTt) ∧ (type_of% @z_repl) ∧ (type_of% @z_replS) ∧ (type_of% @z_upper) := ⟨@z_dgetK, @z_inKD, @z_ninKD, @z_iKeys, @z_keysD, @z_lenD, @z_sorted, @z_srtL, @z_srtD, @z_eqDD, @z_reprD, @z_eqAd, @z_eqAl, @z_eqAt, @z_eqAi, @z_eqAs, @z_eqAb, @z_eqAn, @z_rpAd, @z_rpAl, @z_rpAt, @z_rpAi, @z_rpAs, @z_rpAb, @z_rpAn, @z_dcO, @z_rDx, @z_dc, @z_rev, @z_revL, @z_dictP, @z_pCat, @z_pLc, @z_dget2K, @z_kg2D, @z_gUt, @z_gUl, @z_sortSc, @z_sortSetT, @z_updR, @z_updQ, @z_pl, @z_shAS, @z_setdApp, @z_dicF, @z_retVals, @z_fBor, @z_dic0, @z_dic1, @z_dicT1, @z_neDD, @z_revT, @z_revTt, @z_repl, @z_replS, @z_upper⟩
theorem zHp0 : (type_of% @z_toDs) := @z_toDs
end DL
namespace My
open PySem PySem.Spec PyProof.Rows L2 Evl DL

def topS (i : Nat) : Stmt := PySem.Challenge.pw_poleribbons_k11_kinds_known.main.body.getD i (.Pass ⟨0, 0, 0, 0⟩)
abbrev s_are_bits : Stmt := topS 6
theorem sc_are_bits : FnScope ["thing", "sign"] ["thing"] (defScope s_are_bits) := ⟨rfl, rfl, rfl, by decide +kernel, rfl, by decide +kernel, by decide +kernel⟩
abbrev s_is_integer : Stmt := topS 3
theorem sc_is_integer : FnScope ["thing"] ["thing"] (defScope s_is_integer) := ⟨rfl, rfl, rfl, by decide +kernel, rfl, by decide +kernel, by decide +kernel⟩
abbrev s_is_count : Stmt := topS 4
theorem sc_is_count : FnScope ["thing"] ["thing"] (defScope s_is_count) := ⟨rfl, rfl, rfl, by decide +kernel, rfl, by decide +kernel, by decide +kernel⟩
abbrev s_is_number : Stmt := topS 5
theorem sc_is_number : FnScope ["thing"] ["thing"] (defScope s_is_number) := ⟨rfl, rfl, rfl, by decide +kernel, rfl, by decide +kernel, by decide +kernel⟩
abbrev s_is_reader : Stmt := topS 8
theorem sc_is_reader : FnScope ["thing"] ["thing"] (defScope s_is_reader) := ⟨rfl, rfl, rfl, by decide +kernel, rfl, by decide +kernel, by decide +kernel⟩
abbrev s_is_side : Stmt := topS 7
theorem sc_is_side : FnScope ["thing"] ["thing"] (defScope s_is_side) := ⟨rfl, rfl, rfl, by decide +kernel, rfl, by decide +kernel, by decide +kernel⟩
abbrev s__law_alike : Stmt := topS 12
theorem sc__law_alike : FnScope ["_law_found_here", "_law_due_here"] ["_law_found_here", "_law_due_here"] (defScope s__law_alike) := ⟨rfl, rfl, rfl, by decide +kernel, rfl, by decide +kernel, by decide +kernel⟩
abbrev s__law_bag : Stmt := topS 10
theorem sc__law_bag : FnScope ["_law_script", "_law_cell"] ["_law_script"] (defScope s__law_bag) := ⟨rfl, rfl, rfl, by decide +kernel, rfl, by decide +kernel, by decide +kernel⟩
abbrev s__law_due : Stmt := topS 16
theorem sc__law_due : FnScope ["_law_thing_here", "_law_whole", "_law_text", "_law_due_here"] ["_law_thing_here"] (defScope s__law_due) := ⟨rfl, rfl, rfl, by decide +kernel, rfl, by decide +kernel, by decide +kernel⟩
abbrev s__law_found : Stmt := topS 17
theorem sc__law_found : FnScope ["_law_thing_here", "_law_found_here"] ["_law_thing_here"] (defScope s__law_found) := ⟨rfl, rfl, rfl, by decide +kernel, rfl, by decide +kernel, by decide +kernel⟩
abbrev s__law_take : Stmt := topS 11
theorem sc__law_take : FnScope ["_law_bag_here", "_law_many", "_law_cell", "_law_mixed", "_law_value", "_law_begin", "_law_second"] ["_law_bag_here", "_law_many"] (defScope s__law_take) := ⟨rfl, rfl, rfl, by decide +kernel, rfl, by decide +kernel, by decide +kernel⟩
abbrev s__law_odd : Stmt := topS 14
theorem sc__law_odd : FnScope ["_law_bag_here", "_law_name", "_law_wide", "_law_plain"] ["_law_bag_here", "_law_name"] (defScope s__law_odd) := ⟨rfl, rfl, rfl, by decide +kernel, rfl, by decide +kernel, by decide +kernel⟩
abbrev s__law_pick : Stmt := topS 13
theorem sc__law_pick : FnScope ["_law_bag_here", "_law_things"] ["_law_bag_here", "_law_things"] (defScope s__law_pick) := ⟨rfl, rfl, rfl, by decide +kernel, rfl, by decide +kernel, by decide +kernel⟩
abbrev s__law_thing : Stmt := topS 15
theorem sc__law_thing : FnScope ["_law_bag_here", "_law_way", "_law_text", "_law_k"] ["_law_bag_here"] (defScope s__law_thing) := ⟨rfl, rfl, rfl, by decide +kernel, rfl, by decide +kernel, by decide +kernel⟩
abbrev s_law : Stmt := topS 18
theorem sc_law : FnScope ["_law_script", "_law_bag_here", "_law_turn", "_law_thing_here", "_law_again"] ["_law_script"] (defScope s_law) := ⟨rfl, rfl, rfl, by decide +kernel, rfl, by decide +kernel, by decide +kernel⟩


def c_SIDES : D := cTup [Str.ofString "moon", Str.ofString "sun"]
def c_READERS : D := cTup [Str.ofString "turns", Str.ofString "others", Str.ofString "rounds", Str.ofString "suns", Str.ofString "moons"]
/-- what the top has left -/
structure Top (K : PySem.W.Frag) (mg : Str → Option Value) (ct : Nat → Addr) where
  f_are_bits : DefAt K mg "are_bits" s_are_bits ["thing"]
  f_is_integer : DefAt K mg "is_integer" s_is_integer ["thing"]
  f_is_count : DefAt K mg "is_count" s_is_count ["thing"]
  f_is_number : DefAt K mg "is_number" s_is_number ["thing"]
  f_is_reader : DefAt K mg "is_reader" s_is_reader ["thing"]
  f_is_side : DefAt K mg "is_side" s_is_side ["thing"]
  f__law_alike : DefAt K mg "_law_alike" s__law_alike ["_law_found_here", "_law_due_here"]
  f__law_bag : DefAt K mg "_law_bag" s__law_bag ["_law_script"]
  f__law_due : DefAt K mg "_law_due" s__law_due ["_law_thing_here"]
  f__law_found : DefAt K mg "_law_found" s__law_found ["_law_thing_here"]
  f__law_take : DefAt K mg "_law_take" s__law_take ["_law_bag_here", "_law_many"]
  f__law_odd : DefAt K mg "_law_odd" s__law_odd ["_law_bag_here", "_law_name"]
  f__law_pick : DefAt K mg "_law_pick" s__law_pick ["_law_bag_here", "_law_things"]
  f__law_thing : DefAt K mg "_law_thing" s__law_thing ["_law_bag_here"]
  f_law : DefAt K mg "law" s_law ["_law_script"]
  n_abs : mg "abs" = none
  n_all : mg "all" = none
  n_bool : mg "bool" = none
  n_int : mg "int" = none
  n_isinstance : mg "isinstance" = none
  n_len : mg "len" = none
  n_range : mg "range" = none
  n_repr : mg "repr" = none
  n_str : mg "str" = none
  a_SIDES : Addr
  g_SIDES : mg "SIDES" = some (.ref a_SIDES)
  d_SIDES : ∀ B G, Dat K B G (.ref a_SIDES) c_SIDES
  a_READERS : Addr
  g_READERS : mg "READERS" = some (.ref a_READERS)
  d_READERS : ∀ B G, Dat K B G (.ref a_READERS) c_READERS

/-! words by their bits, without a program -/
def vl (e a : List Nat) (x : Nat) : Nat := if x < e.length then e.getD x 0 else a.getD ((x - e.length) % a.length) 0
theorem vl_per {e a : List Nat} {x : Nat} (h : e.length ≤ x) : vl e a (x + a.length) = vl e a x := by
  unfold vl
  rw [if_neg (by omega), if_neg (by omega)]
  have : x + a.length - e.length = (x - e.length) + a.length := by omega
  rw [this, Nat.add_mod_right]
theorem per_mul {f : Nat → Nat} {l p : Nat} (h : ∀ x, l ≤ x → f (x + p) = f x) : ∀ (k x : Nat), l ≤ x → f (x + k * p) = f x
  | 0, x, _ => by rw [Nat.zero_mul, Nat.add_zero]
  | k + 1, x, hx => by
    have : x + (k + 1) * p = (x + k * p) + p := by rw [Nat.succ_mul]; omega
    rw [this, h _ (Nat.le_trans hx (Nat.le_add_right _ _)), per_mul h k x hx]
/-- a is a power of its first part of length s -/
def Pow (a : List Nat) (s : Nat) : Prop := ∀ i, i < a.length → a.getD i 0 = a.getD (i % s) 0
def Prim (a : List Nat) : Prop := ∀ s, 0 < s → s ∣ a.length → Pow a s → s = a.length
def Tight (e a : List Nat) : Prop := e = [] ∨ e.getD (e.length - 1) 0 ≠ a.getD (a.length - 1) 0
theorem vl_tail {e a : List Nat} {i : Nat} (h : i < a.length) : vl e a (e.length + i) = a.getD i 0 := by
  unfold vl
  rw [if_neg (by omega)]
  have : e.length + i - e.length = i := by omega
  rw [this, Nat.mod_eq_of_lt h]
theorem vl_head {e a : List Nat} {i : Nat} (h : i < e.length) : vl e a i = e.getD i 0 := by
  unfold vl
  rw [if_pos h]
theorem gcd_nat : ∀ (n : Nat) {a b : Nat}, a + b ≤ n → 0 < a → 0 < b → ∃ u v : Nat, Nat.gcd a b + u * a = v * b
  | 0, a, b, h, ha, hb => absurd h (by omega)
  | n + 1, a, b, h, ha, hb => by
    rcases Nat.lt_trichotomy a b with q | q | q
    · obtain ⟨u, v, e⟩ := gcd_nat n (a := a) (b := b - a) (by omega) ha (by omega)
      refine ⟨u + v, v, ?_⟩
      have eg : Nat.gcd a (b - a) = Nat.gcd a b := by
        have : Nat.gcd a (b - a + a) = Nat.gcd a (b - a) := Nat.gcd_add_self_right a (b - a)
        rw [← this, Nat.sub_add_cancel (Nat.le_of_lt q)]
      rw [eg] at e
      have e2 : v * (b - a) + v * a = v * b := by rw [← Nat.mul_add, Nat.sub_add_cancel (Nat.le_of_lt q)]
      rw [Nat.add_mul]
      omega
    · subst q
      exact ⟨0, 1, by rw [Nat.gcd_self]; omega⟩
    · obtain ⟨u, v, e⟩ := gcd_nat n (a := a - b) (b := b) (by omega) (by omega) hb
      refine ⟨u, v + u, ?_⟩
      have eg : Nat.gcd (a - b) b = Nat.gcd a b := by
        have : Nat.gcd (a - b + b) b = Nat.gcd (a - b) b := Nat.gcd_add_self_left b (a - b)
        rw [← this, Nat.sub_add_cancel (Nat.le_of_lt q)]
      rw [eg] at e
      have e2 : u * (a - b) + u * b = u * a := by rw [← Nat.mul_add, Nat.sub_add_cancel (Nat.le_of_lt q)]
      rw [Nat.add_mul]
      omega
/-- every period of a primitive word is a multiple of its own -/
theorem prim_dvd {e a : List Nat} (ha : 0 < a.length) (hp : Prim a) {l q : Nat} (hq : 0 < q) (h : ∀ x, l ≤ x → vl e a (x + q) = vl e a x) : a.length ∣ q := by
  have P : ∀ x, e.length ≤ x → vl e a (x + a.length) = vl e a x := fun x hx => vl_per hx
  have Q : ∀ x, e.length ≤ x → vl e a (x + q) = vl e a x := fun x hx => by
    have e1 := per_mul P l (x + q) (by omega)
    have e2 := per_mul P l x hx
    have hl : l ≤ x + l * a.length := Nat.le_trans (Nat.le_mul_of_pos_right l ha) (Nat.le_add_left _ _)
    have e3 := h (x + l * a.length) hl
    have e4 : x + q + l * a.length = x + l * a.length + q := by omega
    rw [← e1, e4, e3, e2]
  -- the greatest common divisor is a period too
  have hg : 0 < Nat.gcd a.length q := Nat.gcd_pos_of_pos_left _ ha
  have Gp : ∀ x, e.length ≤ x → vl e a (x + Nat.gcd a.length q) = vl e a x := fun x hx => by
    obtain ⟨u, v, huv⟩ : ∃ u v : Nat, Nat.gcd a.length q + u * a.length = v * q := gcd_nat _ (Nat.le_refl _) ha hq
    have e1 := per_mul P u (x + Nat.gcd a.length q) (by omega)
    have e2 := per_mul Q v x hx
    have e3 : x + Nat.gcd a.length q + u * a.length = x + v * q := by omega
    rw [← e1, e3, e2]
  have hs := hp (Nat.gcd a.length q) hg (Nat.gcd_dvd_left _ _) fun i hi => by
    have e1 := per_mul Gp (i / Nat.gcd a.length q) (e.length + i % Nat.gcd a.length q) (by omega)
    have e2 : e.length + i % Nat.gcd a.length q + i / Nat.gcd a.length q * Nat.gcd a.length q = e.length + i := by
      have := Nat.mod_add_div i (Nat.gcd a.length q)
      rw [Nat.mul_comm] at this
      omega
    rw [e2, vl_tail hi, vl_tail (Nat.lt_of_le_of_lt (Nat.mod_le _ _) hi)] at e1
    exact e1
  rw [← hs]
  exact Nat.gcd_dvd_right _ _
theorem canon {e1 a1 e2 a2 : List Nat} (h1 : 0 < a1.length) (h2 : 0 < a2.length) (p1 : Prim a1) (p2 : Prim a2) (t1 : Tight e1 a1) (t2 : Tight e2 a2) (h : ∀ x, vl e1 a1 x = vl e2 a2 x) : e1 = e2 ∧ a1 = a2 := by
  have d1 : a1.length ∣ a2.length := prim_dvd h1 p1 h2 (l := e2.length) fun x hx => by rw [h, h]; exact vl_per hx
  have d2 : a2.length ∣ a1.length := prim_dvd h2 p2 h1 (l := e1.length) fun x hx => by rw [← h, ← h]; exact vl_per hx
  have ea : a1.length = a2.length := Nat.dvd_antisymm d1 d2
  have key : ∀ {e a e' a' : List Nat}, 0 < a.length → a'.length = a.length → Tight e a → (∀ x, vl e a x = vl e' a' x) → e.length ≤ e'.length := fun {e a e' a'} ha el t hv => by
    rcases t with rfl | t
    · exact Nat.zero_le _
    · refine Nat.le_of_not_lt fun hl => t ?_
      have e3 := vl_per (e := e') (a := a') (x := e.length - 1) (by omega)
      have e4 : e.length - 1 + a.length = e.length + (a.length - 1) := by omega
      rw [← hv, ← hv, el, e4, vl_tail (by omega), vl_head (i := e.length - 1) (by omega)] at e3
      exact e3.symm
  have el : e1.length = e2.length := Nat.le_antisymm (key h1 ea.symm t1 h) (key h2 ea t2 fun x => (h x).symm)
  have toD : ∀ (l : List Nat) (i : Nat), i < l.length → l[i]? = some (l.getD i 0) := fun l i hi => by
    rw [List.getD_eq_getElem?_getD, List.getElem?_eq_getElem hi]
    rfl
  constructor
  · apply List.ext_getElem?
    intro i
    by_cases hi : i < e1.length
    · rw [toD e1 i hi, toD e2 i (by omega), ← vl_head (a := a1) hi, ← vl_head (a := a2) (by omega : i < e2.length), h]
    · rw [List.getElem?_eq_none_iff.mpr (by omega), List.getElem?_eq_none_iff.mpr (by omega)]
  · apply List.ext_getElem?
    intro i
    by_cases hi : i < a1.length
    · rw [toD a1 i hi, toD a2 i (by omega), ← vl_tail (e := e1) hi, ← vl_tail (e := e2) (by omega : i < a2.length), el, h]
    · rw [List.getElem?_eq_none_iff.mpr (by omega), List.getElem?_eq_none_iff.mpr (by omega)]
/-! powers, turning -/
theorem rep_at (l : List Nat) : ∀ (k i : Nat), i < k * l.length → (List.replicate k l).flatten[i]? = l[i % l.length]?
  | 0, i, h => by omega
  | k + 1, i, h => by
    rw [List.replicate_succ, List.flatten_cons]
    by_cases hi : i < l.length
    · rw [List.getElem?_append_left hi, Nat.mod_eq_of_lt hi]
    · rw [List.getElem?_append_right (by omega), rep_at l k (i - l.length) (by rw [Nat.succ_mul] at h; omega)]
      congr 1
      rw [Nat.mod_eq_sub_mod (by omega : i ≥ l.length)]
theorem rep_len (l : List Nat) (k : Nat) : (List.replicate k l).flatten.length = k * l.length := by simp
theorem getD_of {l : List Nat} {i : Nat} (h : i < l.length) : l[i]? = some (l.getD i 0) := by
  rw [List.getD_eq_getElem?_getD, List.getElem?_eq_getElem h]
  rfl
theorem pow_iff {a : List Nat} {s : Nat} (hs : 0 < s) (ha : 0 < a.length) (hd : s ∣ a.length) : a = (List.replicate (a.length / s) (a.take s)).flatten ↔ Pow a s := by
  have hle : s ≤ a.length := Nat.le_of_dvd ha hd
  have hl : (a.take s).length = s := by rw [List.length_take]; omega
  have hm : a.length / s * s = a.length := Nat.div_mul_cancel hd
  constructor
  · intro e i hi
    have e1 : a[i]? = a[i % s]? := by
      have e2 := rep_at (a.take s) (a.length / s) i (by rw [hl, hm]; exact hi)
      rw [← e, hl, List.getElem?_take, if_pos (Nat.mod_lt _ hs)] at e2
      exact e2
    rw [List.getD_eq_getElem?_getD, List.getD_eq_getElem?_getD, e1]
  · intro e
    apply List.ext_getElem?
    intro i
    by_cases hi : i < a.length
    · rw [rep_at (a.take s) (a.length / s) i (by rw [hl, hm]; exact hi), hl, List.getElem?_take, if_pos (Nat.mod_lt _ hs), getD_of hi, getD_of (Nat.lt_of_le_of_lt (Nat.mod_le _ _) hi), e i hi]
    · rw [List.getElem?_eq_none_iff.mpr (by omega), List.getElem?_eq_none_iff.mpr (by rw [rep_len, hl, hm]; omega)]
theorem take_getD {a : List Nat} {s i : Nat} (h : i < s) : (a.take s).getD i 0 = a.getD i 0 := by
  rw [List.getD_eq_getElem?_getD, List.getD_eq_getElem?_getD, List.getElem?_take, if_pos h]
/-- the first part tells the same bits -/
theorem vl_take {e a : List Nat} {s : Nat} (hs : 0 < s) (ha : 0 < a.length) (hd : s ∣ a.length) (hp : Pow a s) (x : Nat) : vl e (a.take s) x = vl e a x := by
  have hle : s ≤ a.length := Nat.le_of_dvd ha hd
  have hl : (a.take s).length = s := by rw [List.length_take]; omega
  unfold vl
  by_cases hx : x < e.length
  · rw [if_pos hx, if_pos hx]
  · rw [if_neg hx, if_neg hx, hl, take_getD (Nat.mod_lt _ hs), hp _ (Nat.mod_lt _ ha), Nat.mod_mod_of_dvd _ hd]
/-- one sign of the early part goes round -/
theorem vl_turn {e a : List Nat} {c : Nat} (x : Nat) : vl (e ++ [c]) (a ++ [c]) x = vl e (c :: a) x := by
  have el : (e ++ [c]).length = e.length + 1 := by simp
  have al : (a ++ [c]).length = a.length + 1 := by simp
  have cl : (c :: a).length = a.length + 1 := by simp
  unfold vl
  rw [el, al, cl]
  rcases Nat.lt_trichotomy x e.length with h | h | h
  · rw [if_pos (by omega), if_pos h, List.getD_eq_getElem?_getD, List.getD_eq_getElem?_getD, List.getElem?_append_left h]
  · subst h
    rw [if_pos (by omega), if_neg (by omega), Nat.sub_self, Nat.zero_mod, List.getD_eq_getElem?_getD, List.getElem?_append_right (Nat.le_refl _), Nat.sub_self]
    rfl
  · rw [if_neg (by omega), if_neg (by omega)]
    obtain ⟨y, rfl⟩ : ∃ y, x = e.length + 1 + y := ⟨x - (e.length + 1), by omega⟩
    have e1 : e.length + 1 + y - (e.length + 1) = y := by omega
    have e2 : e.length + 1 + y - e.length = y + 1 := by omega
    rw [e1, e2]
    have hr : y % (a.length + 1) < a.length + 1 := Nat.mod_lt y (Nat.succ_pos a.length)
    by_cases hq : y % (a.length + 1) = a.length
    · have e3 : (y + 1) % (a.length + 1) = 0 := by
        rw [Nat.add_mod, hq]
        by_cases z : a.length = 0
        · rw [z]
        · rw [Nat.mod_eq_of_lt (by omega : 1 < a.length + 1), Nat.mod_self]
      rw [hq, e3, List.getD_eq_getElem?_getD, List.getElem?_append_right (Nat.le_refl _), Nat.sub_self]
      rfl
    · have hr2 : y % (a.length + 1) < a.length := by omega
      have e3 : (y + 1) % (a.length + 1) = y % (a.length + 1) + 1 := by
        rw [Nat.add_mod, Nat.mod_eq_of_lt (by omega : 1 < a.length + 1), Nat.mod_eq_of_lt (by omega)]
      rw [e3, List.getD_eq_getElem?_getD, List.getElem?_append_left (by omega), List.getD_cons_succ, List.getD_eq_getElem?_getD]
theorem turn_at {a : List Nat} {c i : Nat} (h : i < a.length + 1) : (a ++ [c]).getD i 0 = (c :: a).getD ((i + 1) % (a.length + 1)) 0 := by
  by_cases hi : i = a.length
  · subst hi
    rw [Nat.mod_self, List.getD_eq_getElem?_getD, List.getElem?_append_right (Nat.le_refl _), Nat.sub_self]
    rfl
  · rw [Nat.mod_eq_of_lt (by omega), List.getD_cons_succ, List.getD_eq_getElem?_getD, List.getD_eq_getElem?_getD, List.getElem?_append_left (by omega)]
theorem prim_turn {a : List Nat} {c : Nat} (h : Prim (a ++ [c])) : Prim (c :: a) := by
  intro s hs hd hp
  have al : (a ++ [c]).length = a.length + 1 := by simp
  have cl : (c :: a).length = a.length + 1 := by simp
  rw [cl] at hd ⊢
  have n0 : 0 < a.length + 1 := Nat.succ_pos _
  have hle : s ≤ a.length + 1 := Nat.le_of_dvd n0 hd
  have step : ∀ i, i < a.length + 1 → (a ++ [c]).getD i 0 = (c :: a).getD ((i + 1) % s) 0 := fun i hi => by
    rw [turn_at hi, hp _ (by rw [cl]; exact Nat.mod_lt _ n0), Nat.mod_mod_of_dvd _ hd]
  have := h s hs (by rw [al]; exact hd) fun i hi => by
    rw [al] at hi
    have hm : i % s < a.length + 1 := Nat.lt_of_lt_of_le (Nat.mod_lt _ hs) hle
    rw [step i hi, step (i % s) hm]
    congr 1
    rw [Nat.add_mod (i % s) 1 s, Nat.mod_mod, ← Nat.add_mod]
  rw [al] at this
  exact this
theorem sz_w {n : Nat} (h : n ≤ 1000) : n ≤ sizeLine := Nat.le_trans h (by decide)

def t_are_bits : DTS := (dRet (dAn (dIsi "str" (dVar 0)) (dCall cAll (dCons (dF (fLc (iSeq (dVar 0)) (gN 1) dYes (dOp (oIn false) (dVar 1) (dC (.str (Str.ofString "01")))) [1])) dNil))))
def S_are_bits : FD := fun ds Q => ds.length = 1 ∧ t_are_bits { nx := fun _ => Q .non, rt := Q } (startD 2 ds)
theorem len_are_bits : ∀ ds Q, S_are_bits ds Q → ds.length = 1 := fun _ _ h => h.1
theorem vc_are_bits : ∀ ds Q, S_are_bits ds Q → t_are_bits { nx := fun _ => Q .non, rt := Q } (startD 2 ds) := fun _ _ h => h.2

theorem ok_are_bits {P : Program} {w : World} {K : PySem.W.Frag} {mg : Str → Option Value} {base : Heap} {B : Bx} (T : Top K mg B.ct) : FnOk P w K mg base CX0 1 T.f_are_bits.f T.f_are_bits.fd ["thing"] (spD K B S_are_bits) := by
  refine fn_d (k := 0) (t := t_are_bits) T.f_are_bits.fn sc_are_bits len_are_bits (fun cdv A outer s H E hr => ?_) vc_are_bits
  refine psd_one ?_
  refine (psd_ret (pd_and (pd_isi known_str (by rfl) T.n_isinstance (by rfl) T.n_str (by decide +kernel) (pd_var 0)) (pd_1 (pd_callB (call_all_d rfl) (by rfl) T.n_all (by decide +kernel) (pad_cons (pd_f (pf_lc rfl sc_are_bits.nd (pid_seq (pd_var 0)) (blkOk_by (own := [("sign", 1)]) (by rfl)) (by decide) (fun _ _ _ _ _ => (pgd_name (i := 1) sc_are_bits.nd rfl (by first | exact .inl rfl | exact .inr rfl))) (fun _ _ _ _ _ => ptsd_nil) (fun _ _ _ _ _ => (pd_cmp op_in_d (pd_var 1) pd_str (by rfl))))) pad_nil)))))
def t_is_integer : DTS := (dRet (dAn (dIsi "int" (dVar 0)) (dNt (dIsi "bool" (dVar 0)))))
def S_is_integer : FD := fun ds Q => ds.length = 1 ∧ t_is_integer { nx := fun _ => Q .non, rt := Q } (startD 1 ds)
theorem len_is_integer : ∀ ds Q, S_is_integer ds Q → ds.length = 1 := fun _ _ h => h.1
theorem vc_is_integer : ∀ ds Q, S_is_integer ds Q → t_is_integer { nx := fun _ => Q .non, rt := Q } (startD 1 ds) := fun _ _ h => h.2

theorem ok_is_integer {P : Program} {w : World} {K : PySem.W.Frag} {mg : Str → Option Value} {base : Heap} {B : Bx} (T : Top K mg B.ct) : FnOk P w K mg base CX0 1 T.f_is_integer.f T.f_is_integer.fd ["thing"] (spD K B S_is_integer) := by
  refine fn_d (k := 0) (t := t_is_integer) T.f_is_integer.fn sc_is_integer len_is_integer (fun cdv A outer s H E hr => ?_) vc_is_integer
  refine psd_one ?_
  refine (psd_ret (pd_and (pd_isi known_int (by rfl) T.n_isinstance (by rfl) T.n_int (by decide +kernel) (pd_var 0)) (pd_1 (pd_not (pd_isi known_bool (by rfl) T.n_isinstance (by rfl) T.n_bool (by decide +kernel) (pd_var 0))))))
def t_is_count : DTS := (dRet (dAn (dCall S_is_integer (dCons (dVar 0) dNil)) (dOp oGe (dVar 0) (dC (.int 0)))))
def S_is_count : FD := fun ds Q => ds.length = 1 ∧ t_is_count { nx := fun _ => Q .non, rt := Q } (startD 1 ds)
theorem len_is_count : ∀ ds Q, S_is_count ds Q → ds.length = 1 := fun _ _ h => h.1
theorem vc_is_count : ∀ ds Q, S_is_count ds Q → t_is_count { nx := fun _ => Q .non, rt := Q } (startD 1 ds) := fun _ _ h => h.2

theorem ok_is_count {P : Program} {w : World} {K : PySem.W.Frag} {mg : Str → Option Value} {base : Heap} {B : Bx} (T : Top K mg B.ct) : FnOk P w K mg base CX0 2 T.f_is_count.f T.f_is_count.fd ["thing"] (spD K B S_is_count) := by
  refine fn_d (k := 1) (t := t_is_count) T.f_is_count.fn sc_is_count len_is_count (fun cdv A outer s H E hr => ?_) vc_is_count
  refine psd_one ?_
  refine (psd_ret (pd_and (pd_callD T.f_is_integer (ok_is_integer T) hr (by decide) (by rfl) (pad_cons (pd_var 0) pad_nil)) (pd_1 (pd_cmp op_ge_d (pd_var 0) pd_int (by rfl)))))
def t_is_number : DTS := (dRet (dAn (dCall S_is_integer (dCons (dVar 0) dNil)) (dOp oGe (dVar 0) (dC (.int 1)))))
def S_is_number : FD := fun ds Q => ds.length = 1 ∧ t_is_number { nx := fun _ => Q .non, rt := Q } (startD 1 ds)
theorem len_is_number : ∀ ds Q, S_is_number ds Q → ds.length = 1 := fun _ _ h => h.1
theorem vc_is_number : ∀ ds Q, S_is_number ds Q → t_is_number { nx := fun _ => Q .non, rt := Q } (startD 1 ds) := fun _ _ h => h.2

theorem ok_is_number {P : Program} {w : World} {K : PySem.W.Frag} {mg : Str → Option Value} {base : Heap} {B : Bx} (T : Top K mg B.ct) : FnOk P w K mg base CX0 2 T.f_is_number.f T.f_is_number.fd ["thing"] (spD K B S_is_number) := by
  refine fn_d (k := 1) (t := t_is_number) T.f_is_number.fn sc_is_number len_is_number (fun cdv A outer s H E hr => ?_) vc_is_number
  refine psd_one ?_
  refine (psd_ret (pd_and (pd_callD T.f_is_integer (ok_is_integer T) hr (by decide) (by rfl) (pad_cons (pd_var 0) pad_nil)) (pd_1 (pd_cmp op_ge_d (pd_var 0) pd_int (by rfl)))))
def t_is_reader : DTS := (dRet (dAn (dIsi "str" (dVar 0)) (dOp (oIn false) (dVar 0) (dC c_READERS))))
def S_is_reader : FD := fun ds Q => ds.length = 1 ∧ t_is_reader { nx := fun _ => Q .non, rt := Q } (startD 1 ds)
theorem len_is_reader : ∀ ds Q, S_is_reader ds Q → ds.length = 1 := fun _ _ h => h.1
theorem vc_is_reader : ∀ ds Q, S_is_reader ds Q → t_is_reader { nx := fun _ => Q .non, rt := Q } (startD 1 ds) := fun _ _ h => h.2

theorem ok_is_reader {P : Program} {w : World} {K : PySem.W.Frag} {mg : Str → Option Value} {base : Heap} {B : Bx} (T : Top K mg B.ct) : FnOk P w K mg base CX0 1 T.f_is_reader.f T.f_is_reader.fd ["thing"] (spD K B S_is_reader) := by
  refine fn_d (k := 0) (t := t_is_reader) T.f_is_reader.fn sc_is_reader len_is_reader (fun cdv A outer s H E hr => ?_) vc_is_reader
  refine psd_one ?_
  refine (psd_ret (pd_and (pd_isi known_str (by rfl) T.n_isinstance (by rfl) T.n_str (by decide +kernel) (pd_var 0)) (pd_1 (pd_cmp op_in_d (pd_var 0) (pd_glob (v := .ref T.a_READERS) (by rfl) T.g_READERS rfl (T.d_READERS B)) (by rfl)))))
def t_is_side : DTS := (dRet (dAn (dIsi "str" (dVar 0)) (dOp (oIn false) (dVar 0) (dC c_SIDES))))
def S_is_side : FD := fun ds Q => ds.length = 1 ∧ t_is_side { nx := fun _ => Q .non, rt := Q } (startD 1 ds)
theorem len_is_side : ∀ ds Q, S_is_side ds Q → ds.length = 1 := fun _ _ h => h.1
theorem vc_is_side : ∀ ds Q, S_is_side ds Q → t_is_side { nx := fun _ => Q .non, rt := Q } (startD 1 ds) := fun _ _ h => h.2

theorem ok_is_side {P : Program} {w : World} {K : PySem.W.Frag} {mg : Str → Option Value} {base : Heap} {B : Bx} (T : Top K mg B.ct) : FnOk P w K mg base CX0 1 T.f_is_side.f T.f_is_side.fd ["thing"] (spD K B S_is_side) := by
  refine fn_d (k := 0) (t := t_is_side) T.f_is_side.fn sc_is_side len_is_side (fun cdv A outer s H E hr => ?_) vc_is_side
  refine psd_one ?_
  refine (psd_ret (pd_and (pd_isi known_str (by rfl) T.n_isinstance (by rfl) T.n_str (by decide +kernel) (pd_var 0)) (pd_1 (pd_cmp op_in_d (pd_var 0) (pd_glob (v := .ref T.a_SIDES) (by rfl) T.g_SIDES rfl (T.d_SIDES B)) (by rfl)))))
theorem len__law_alike : ∀ ds Q, S__law_alike ds Q → ds.length = 2
  | [_, _], _, _ => rfl

def t__law_alike : DTS := (dRet (dAn (dOp oEq (dVar 0) (dVar 1)) (dOp oEq (dCall cRepr (dCons (dVar 0) dNil)) (dCall cRepr (dCons (dVar 1) dNil)))))
theorem vc__law_alike : ∀ ds Q, S__law_alike ds Q → t__law_alike { nx := fun _ => Q .non, rt := Q } (startD 2 ds)
  | [x, y], Q, h => by
    obtain ⟨⟨rfl, h1, h2⟩, hq⟩ := h
    show oEq x x fun z => match z with | .bl c => if c = true then _ else _ | _ => False
    refine eq_self h1 ?_
    show cRepr [x] fun u => cRepr [x] fun v => oEq u v Q
    refine ⟨⟨h1, h2⟩, ⟨h1, h2⟩, ?_⟩
    show Q (.bl (decide _))
    rw [decide_eq_true rfl]
    exact hq

theorem ok__law_alike {P : Program} {w : World} {K : PySem.W.Frag} {mg : Str → Option Value} {base : Heap} {B : Bx} (T : Top K mg B.ct) : FnG P w K mg base CX0 1 T.f__law_alike.f T.f__law_alike.fd ["_law_found_here", "_law_due_here"] (spD K B S__law_alike) := by
  refine fng_d (k := 0) (t := t__law_alike) T.f__law_alike.fn sc__law_alike len__law_alike (fun cdv A outer s H E hgd hr => ?_) vc__law_alike
  have hgd : (cxOf CX0 P w K mg base ["_law_found_here", "_law_due_here"] "_law_alike" (defScope s__law_alike) T.f__law_alike.f cdv A outer s H E).nox.A.guards = some [] := hgd
  have hu70 : (cxOf CX0 P w K mg base ["_law_found_here", "_law_due_here"] "_law_alike" (defScope s__law_alike) T.f__law_alike.f cdv A outer s H E).nox.A.units + 70 < cLine := Nat.lt_of_le_of_lt (Nat.add_le_add_left (by decide : 70 ≤ 16 * 0 + 200) _) hr.un
  refine psd_one ?_
  refine (psd_ret (pd_and (pd_cmp (op_eq_d hr.units) (pd_var 0) (pd_var 1) (by rfl)) (pd_1 (pd_cmp (op_eq_d hr.units) (pd_callB (call_repr_d hgd hu70) (by rfl) T.n_repr (by decide +kernel) (pad_cons (pd_var 0) pad_nil)) (pd_callB (call_repr_d hgd hu70) (by rfl) T.n_repr (by decide +kernel) (pad_cons (pd_var 1) pad_nil)) (by rfl)))))

def absI (i : Int) : Int := if i < 0 then -i else i
def spBag (K : PySem.W.Frag) : Sp := fun vs H P _ => ∃ (a : Addr) (ns : List Int), vs = [.ref a] ∧ SqL K H a (ns.map V.int) ∧ ns.length ≤ 63 ∧
  ∀ b L H2, H b = none → H L = none → L ≠ b → Ex H H2 → H2 b = some (.lst [.int 0, .int 1234567891, .int 0, .ref L]) → H2 L = some (.lst ((ns.map absI).map V.int)) → P (.ref b) H2
theorem ok__law_bag {P : Program} {w : World} {K : PySem.W.Frag} {mg : Str → Option Value} {base : Heap} {ct : Nat → Addr} (T : Top K mg ct) : FnOk P w K mg base CX0 1 T.f__law_bag.f T.f__law_bag.fd ["_law_script"] (spBag K) := by
  refine T.f__law_bag.fn.ok sc__law_bag (fun vs H Q E h => ?_) (fun cdv A outer s H vs Q E hr h => ?_)
  · obtain ⟨a, ns, rfl, _⟩ := h
    rfl
  obtain ⟨a, ns, rfl, hS, hl, q⟩ := h
  refine ⟨_, pss_one (ps_ret (pe_lst (pa_cons pe_int (pa_cons pe_int (pa_cons pe_int (pa_cons (pe_lc (own := [("_law_cell", 1)]) (g := gName 1) (tt := tYes) rfl sc__law_bag.nd (pi_list (pe_slice sl_list (pv 0) po_none (po_some pe_int)))
    (blkOk_by (by rfl)) (fun _ _ _ _ _ => pg_name (i := 1) sc__law_bag.nd rfl (.inl rfl)) (fun _ _ _ _ _ => pts_nil) (fun _ _ _ _ _ => pe_callB call_abs (by rfl) T.n_abs (by decide +kernel) (pa_cons (pv 1) pa_nil))) pa_nil)))))), ?_⟩
  have hcut : cutV (ns.map V.int) none (some 63) = ns.map V.int := by
    show DL.cut (ns.map V.int) none (some ((63 : Nat) : Int)) = _
    rw [cut_to]
    exact List.take_of_length_le (by rw [List.length_map]; exact hl)
  have ev : EvL (tSl (rSlL K) (tVar 0) tNoPart (tPart (tC (.int 63)))) [some (.ref a), none] H (ns.map V.int) := by
    have := el_sl (K := K) (ev_var (σ := [some (.ref a), none]) (H := H) (i := 0) (v := .ref a) rfl) eo_none (eo_some (ev_c (v := .int 63))) hS
    rw [hcut] at this
    exact this
  have key := el_lcNL (K := K) (j := 1) (vs := [1]) (t := tYes) (te := tCB (fun xs H Q => ∃ i, xs = [.int i] ∧ Q (.int (if i < 0 then -i else i)) H) (tCons (tVar 1) tNil)) (fun _ => true) (fun i => .int (absI (ns.getD i 0))) ev (by rw [List.length_map]; omega) (fun x => rfl)
    (fun i x H1 _ _ H2 _ R r => r H2 (Ex.refl _)) (fun i x H1 _ hx _ H2 _ R r => by
      rw [List.getElem?_map] at hx
      cases e : ns[i]? with
      | none => rw [e] at hx; cases hx
      | some m =>
        rw [e] at hx
        cases hx
        refine ⟨.int m, rfl, m, rfl, ?_⟩
        have e2 : absI (ns.getD i 0) = if m < 0 then -m else m := by
          rw [List.getD_eq_getElem?_getD, e]
          rfl
        rw [← e2]
        exact r H2 (Ex.refl _))
  have e3 : given (ns.map V.int).length (fun _ => true) (fun i => V.int (absI (ns.getD i 0))) = (ns.map absI).map V.int := by
    unfold given
    rw [List.filter_eq_self.mpr (fun _ _ => rfl), List.map_map]
    apply List.ext_getElem?
    intro i
    rw [List.getElem?_map, List.getElem?_map, List.length_map]
    by_cases hi : i < ns.length
    · rw [List.getElem?_range hi, List.getElem?_eq_getElem hi]
      show some (V.int (absI (ns.getD i 0))) = some (V.int (absI ns[i]))
      rw [List.getD_eq_getElem?_getD, List.getElem?_eq_getElem hi]
      rfl
    · rw [List.getElem?_eq_none_iff.mpr (by rw [List.length_range]; omega), List.getElem?_eq_none_iff.mpr (by omega)]
      rfl
  rw [e3] at key
  have fin := key H (Ex.refl H) (fun x H1 => [V.int 0, V.int 1234567891, V.int 0, x].length ≤ sizeLine ∧ ∀ p, H1 p = none → Q (.ref p) (upd H1 p (.lst [V.int 0, V.int 1234567891, V.int 0, x]))) (fun L H1 hL e1 h1 => ⟨by show 4 ≤ sizeLine; decide, fun b hb => q b L _ (fresh_back e1 hb) hL (ne_of_none h1 hb) (e1.trans (Ex.new hb)) upd_same (by rw [upd_ne (ne_of_none h1 hb)]; exact h1)⟩)
  exact fin

def _law_due_at_4 : DTS := (dRet (dOp oAdd (dVar 3) (dF (fLst (dCons (dOp (oIn false) (dVar 2) (dTup (dCons (dC (.str (Str.ofString "sun"))) (dCons (dC (.str (Str.ofString "moon"))) dNil)))) (dCons (dOp (oIn false) (dVar 2) (dTup (dCons (dC (.str (Str.ofString "turns"))) (dCons (dC (.str (Str.ofString "others"))) (dCons (dC (.str (Str.ofString "rounds"))) (dCons (dC (.str (Str.ofString "suns"))) (dCons (dC (.str (Str.ofString "moons"))) dNil))))))) dNil))))))
def _law_due_at_3 : DTS := (dSeq (dSet 3 (dF (fLst (dCons (dVar 1) (dCons (dAn (dVar 1) (dOp oGe (dVar 0) (dC (.int 0)))) (dCons (dAn (dVar 1) (dOp oGt (dVar 0) (dC (.int 0)))) (dCons (dOp oEq (dRepl (dRepl (dVar 2) (Str.ofString "0") (Str.ofString "")) (Str.ofString "1") (Str.ofString "")) (dC (.str (Str.ofString "")))) dNil)))))))
  _law_due_at_4)
def _law_due_at_2 : DTS := (dSeq (dSet 2 (dIfE (tBl (dIsi "str" (dVar 0))) (dVar 0) (dC (.str (Str.ofString "-")))))
  _law_due_at_3)
def t__law_due : DTS := (dSeq (dSet 1 (dAn (dIsi "int" (dVar 0)) (dNt (dIsi "bool" (dVar 0)))))
  _law_due_at_2)
def S__law_due : FD := fun ds Q => ds.length = 1 ∧ t__law_due { nx := fun _ => Q .non, rt := Q } (startD 4 ds)
theorem len__law_due : ∀ ds Q, S__law_due ds Q → ds.length = 1 := fun _ _ h => h.1
theorem vc__law_due : ∀ ds Q, S__law_due ds Q → t__law_due { nx := fun _ => Q .non, rt := Q } (startD 4 ds) := fun _ _ h => h.2

theorem ok__law_due {P : Program} {w : World} {K : PySem.W.Frag} {mg : Str → Option Value} {base : Heap} {B : Bx} (T : Top K mg B.ct) : FnOk P w K mg base CX0 1 T.f__law_due.f T.f__law_due.fd ["_law_thing_here"] (spD K B S__law_due) := by
  refine fn_dT (k := 0) (t := t__law_due) T.f__law_due.fn sc__law_due (by decide +kernel) (by decide) len__law_due (fun cdv A outer s H E hr => ?_) vc__law_due
  refine psdt_cons ?_ ?_
  · refine psdt_of ?_
    refine (psd_set (i := 1) sc__law_due.nd rfl (by first | exact .inl rfl | exact .inr rfl) (pd_and (pd_isi known_int (by rfl) T.n_isinstance (by rfl) T.n_int (by decide +kernel) (pd_var 0)) (pd_1 (pd_not (pd_isi known_bool (by rfl) T.n_isinstance (by rfl) T.n_bool (by decide +kernel) (pd_var 0))))))
  refine psdt_cons ?_ ?_
  · refine psdt_of ?_
    refine (psd_set (i := 2) sc__law_due.nd rfl (by first | exact .inl rfl | exact .inr rfl) (pd_ifE (ptd_val (pd_isi known_str (by rfl) T.n_isinstance (by rfl) T.n_str (by decide +kernel) (pd_var 0))) (pd_var 0) pd_str))
  refine psdt_cons ?_ ?_
  · refine psdt_set (i := 3) sc__law_due.nd rfl (by first | exact .inl rfl | exact .inr rfl) (pdt_f (pft_lst (padt_cons (pdt_of (pd_var 1)) (padt_cons (pdt_of (pd_and (pd_var 1) (pd_1 (pd_cmp op_ge_d (pd_var 0) pd_int (by rfl))))) (padt_cons (pdt_of (pd_and (pd_var 1) (pd_1 (pd_cmp op_gt_d (pd_var 0) pd_int (by rfl))))) (padt_cons (pdt_cmp (op_eq_d hr.units) (pdt_replT (pdt_repl (pd_var 2))) pd_str (by rfl)) padt_nil))))))
  refine psst_of ?_
  refine psd_one ?_
  refine (psd_ret (pd_bin op_add_d (pd_var 3) (pd_f (pf_lst (pad_cons (pd_cmp op_in_d (pd_var 2) (pd_tup (pad_cons pd_str (pad_cons pd_str pad_nil))) (by rfl)) (pad_cons (pd_cmp op_in_d (pd_var 2) (pd_tup (pad_cons pd_str (pad_cons pd_str (pad_cons pd_str (pad_cons pd_str (pad_cons pd_str pad_nil)))))) (by rfl)) pad_nil))))))
def _law_found_at_2 : DTS := (dRet (dOp oAdd (dVar 1) (dF (fLst (dCons (dCall S_is_side (dCons (dVar 0) dNil)) (dCons (dCall S_is_reader (dCons (dVar 0) dNil)) dNil))))))
def t__law_found : DTS := (dSeq (dSet 1 (dF (fLst (dCons (dCall S_is_integer (dCons (dVar 0) dNil)) (dCons (dCall S_is_count (dCons (dVar 0) dNil)) (dCons (dCall S_is_number (dCons (dVar 0) dNil)) (dCons (dCall S_are_bits (dCons (dVar 0) dNil)) dNil)))))))
  _law_found_at_2)
def S__law_found : FD := fun ds Q => ds.length = 1 ∧ t__law_found { nx := fun _ => Q .non, rt := Q } (startD 2 ds)
theorem len__law_found : ∀ ds Q, S__law_found ds Q → ds.length = 1 := fun _ _ h => h.1
theorem vc__law_found : ∀ ds Q, S__law_found ds Q → t__law_found { nx := fun _ => Q .non, rt := Q } (startD 2 ds) := fun _ _ h => h.2

theorem ok__law_found {P : Program} {w : World} {K : PySem.W.Frag} {mg : Str → Option Value} {base : Heap} {B : Bx} (T : Top K mg B.ct) : FnOk P w K mg base CX0 3 T.f__law_found.f T.f__law_found.fd ["_law_thing_here"] (spD K B S__law_found) := by
  refine fn_d (k := 2) (t := t__law_found) T.f__law_found.fn sc__law_found len__law_found (fun cdv A outer s H E hr => ?_) vc__law_found
  refine psd_cons ?_ ?_
  · refine (psd_set (i := 1) sc__law_found.nd rfl (by first | exact .inl rfl | exact .inr rfl) (pd_f (pf_lst (pad_cons (pd_callD T.f_is_integer (ok_is_integer T) hr (by decide) (by rfl) (pad_cons (pd_var 0) pad_nil)) (pad_cons (pd_callD T.f_is_count (ok_is_count T) hr (by decide) (by rfl) (pad_cons (pd_var 0) pad_nil)) (pad_cons (pd_callD T.f_is_number (ok_is_number T) hr (by decide) (by rfl) (pad_cons (pd_var 0) pad_nil)) (pad_cons (pd_callD T.f_are_bits (ok_are_bits T) hr (by decide) (by rfl) (pad_cons (pd_var 0) pad_nil)) pad_nil)))))))
  refine psd_one ?_
  refine (psd_ret (pd_bin op_add_d (pd_var 1) (pd_f (pf_lst (pad_cons (pd_callD T.f_is_side (ok_is_side T) hr (by decide) (by rfl) (pad_cons (pd_var 0) pad_nil)) (pad_cons (pd_callD T.f_is_reader (ok_is_reader T) hr (by decide) (by rfl) (pad_cons (pd_var 0) pad_nil)) pad_nil))))))

theorem bag_set {K : PySem.W.Frag} {B : Bx} {G0 H0 G H : Hp} {a b c : Int} {ns : List Int} (g : Gr K B G0 H0 G H) (hL : SqL K G B.L (ns.map V.int)) (h1 : 0 ≤ a) (h2 : 0 ≤ b) (h3 : b < 2147483647) (h4 : 0 ≤ c) (h5 : ∀ n ∈ ns, 0 ≤ n) (h6 : ns.length ≤ 63) :
    Gr K B G0 H0 G (upd H B.b (.lst [.int a, .int b, .int c, .ref B.L])) := by
  refine ⟨g.ex, fun x o n h => by rw [upd_ne n]; exact g.keep x o n h, ⟨fun x o h => ?_, g.j.no, a, b, c, ns, upd_same, hL, h1, h2, h3, h4, h5, h6⟩, g.old⟩
  have nx : x ≠ B.b := fun e => by subst e; rw [g.j.no] at h; cases h
  rw [upd_ne nx]
  exact g.j.ex x o h

set_option maxHeartbeats 16000000 in
theorem ok__law_take {P : Program} {w : World} {K : PySem.W.Frag} {mg : Str → Option Value} {base : Heap} {B : Bx} (T : Top K mg B.ct) : FnOk P w K mg base CX0 1 T.f__law_take.f T.f__law_take.fd ["_law_bag_here", "_law_many"] (spD K B S__law_take) := by
  refine T.f__law_take.fn.ok sc__law_take (fun vs H Q E h => ?_) (fun cdv A outer s H vs Q E hr h => ?_)
  · obtain ⟨G, ds, R, j, hd, hs, _⟩ := h
    rw [hd.len]
    match ds, hs with
    | [.bag, .int _], _ => rfl
  obtain ⟨G, ds, R, j, hd, hs, kk⟩ := h
  match ds, hs, hd with
  | [.bag, .int n], ⟨⟨n0, n1⟩, hR⟩, .cons .bag (.cons (.int _) .nil) =>
  have kv : ∀ (v : Int) (H2 : Hp), 0 ≤ v → v < n → Gr K B G H G H2 → Q (.int v) H2 := fun v H2 v0 v1 g => kk _ _ G H2 (hR v v0 v1) g (.int _)
  refine ⟨_, pss_cut (ps_if (pt_cmpR op_eq (pe_ix ix_list (pv 0) pe_int (fun _ _ => rfl)) pe_int (nomark _))
      (pss_cons (ps_set (i := 2) sc__law_take.nd rfl (.inl rfl) pe_int)
      (pss_cut (ps_if (pt_cmpR op_lt (pe_ix ix_list (pv 0) pe_int (fun _ _ => rfl)) (pe_callB call_len_seq (by rfl) T.n_len PySem.boot_len (pa_cons (pe_ix ix_list (pv 0) pe_int (fun _ _ => rfl)) pa_nil)) (nomark _))
          (pss_one (ps_set (i := 2) sc__law_take.nd rfl (.inl rfl) (pe_ix ix_list (pe_ix ix_list (pv 0) pe_int (fun _ _ => rfl)) (pe_ix ix_list (pv 0) pe_int (fun _ _ => rfl)) (fun _ _ => rfl)))) pss_nil)
      (pss_cons (ps_augS (pv 0) pe_int get_list pe_int ip_add set_list)
      (pss_cut (ps_if (pt_cmpR op_ge (pv 2) pe_int (nomark _)) (pss_one (ps_asg (pv 2) (pg_sub (pv 0) pe_int set_list))) pss_nil)
      (pss_cons (ps_set (i := 3) sc__law_take.nd rfl (.inl rfl) (pe_op op_add (pe_op op_add (pe_op op_mul (pe_ix ix_list (pv 0) pe_int (fun _ _ => rfl)) pe_int) (pe_op op_mod (pe_callTy call_int1 (by rfl) T.n_int (by decide +kernel) (pa_cons (pv 2) pa_nil)) pe_int)) (pe_op op_mul pe_int (pe_ix ix_list (pv 0) pe_int (fun _ _ => rfl)))))
      (pss_one (ps_asg (pe_op op_mod (pe_callTy call_int1 (by rfl) T.n_int (by decide +kernel) (pa_cons (pv 3) pa_nil)) pe_int) (pg_sub (pv 0) pe_int set_list)))))))) pss_nil)
    (pss_cons (ps_if (pt_cmpR op_gt (pe_ix ix_list (pv 0) pe_int (fun _ _ => rfl)) pe_int (nomark _))
        (pss_cons (ps_set (i := 4) sc__law_take.nd rfl (.inl rfl) (pe_op op_mod (pe_callTy call_int1 (by rfl) T.n_int (by decide +kernel) (pa_cons (pe_ix ix_list (pv 0) pe_int (fun _ _ => rfl)) pa_nil)) (pv 1)))
        (pss_cons (ps_asg (pe_op op_fdivW (pe_ix ix_list (pv 0) pe_int (fun _ _ => rfl)) (pv 1)) (pg_sub (pv 0) pe_int set_list))
        (pss_one (ps_ret (pv 4))))) pss_nil)
    (pss_cons (ps_set (i := 5) sc__law_take.nd rfl (.inl rfl) (pe_op op_mod (pe_callTy call_int1 (by rfl) T.n_int (by decide +kernel) (pa_cons (pe_op op_mul (pe_op op_add (pe_ix ix_list (pv 0) pe_int (fun _ _ => rfl)) pe_int) pe_int) pa_nil)) pe_int))
    (pss_cons (ps_set (i := 6) sc__law_take.nd rfl (.inl rfl) (pe_op op_mod (pe_callTy call_int1 (by rfl) T.n_int (by decide +kernel) (pa_cons (pe_op op_mul (pe_op op_mod (pe_callTy call_int1 (by rfl) T.n_int (by decide +kernel) (pa_cons (pe_op op_mul (pv 5) (pv 5)) pa_nil)) pe_int) pe_int) pa_nil)) pe_int))
    (pss_cons (ps_if (pt_cmpR op_gt (pv 1) pe_int (nomark _)) (pss_one (ps_ret (pe_op op_mod (pe_callTy call_int1 (by rfl) T.n_int (by decide +kernel) (pa_cons (pe_op op_add (pe_op op_mul (pv 6) pe_int) (pv 5)) pa_nil)) (pv 1)))) pss_nil)
    (pss_one (ps_ret (pe_op op_mod (pe_callTy call_int1 (by rfl) T.n_int (by decide +kernel) (pa_cons (pe_op op_fdiv (pv 6) pe_int) pa_nil)) (pv 1)))))))), ?_⟩
  refine ⟨fun σ H' => ∃ y2 y3, σ = [some (.ref B.b), some (.int n), y2, y3, none, none, none] ∧ Gr K B G H G H', ?_, fun σ H' hm => ?_⟩
  · obtain ⟨a, b, c, ns, hb, hL, p1, p2, p3, p4, p5, p6⟩ := j.bag
    have sB : SqL K H B.b [.int a, .int b, .int c, .ref B.L] := SqL.of hb
    refine ⟨.ref B.b, rfl, B.b, _, 0, .int a, rfl, rfl, sB, atI_nat (j := 0) rfl, rfl, _, rfl, ite2 (fun _ => ?_) (fun _ => ⟨none, none, rfl, Gr.refl j⟩)⟩
    have hLH : SqL K H B.L (ns.map V.int) := ex_l j.ex hL
    refine ⟨fun σ H' => ∃ cell : Int, 0 ≤ cell ∧ σ = [some (.ref B.b), some (.int n), some (.int cell), none, none, none, none] ∧ H = H', ?_, fun σ H' hm => ?_⟩
    · refine ⟨.ref B.b, rfl, B.b, _, 2, .int c, rfl, rfl, sB, atI_nat (j := 2) rfl, .ref B.b, rfl, B.b, _, 3, .ref B.L, rfl, rfl, sB, atI_nat (j := 3) rfl, B.L, _, rfl, .inl hLH, c, _, rfl, rfl, _, rfl, ite2 (fun e => ?_) (fun _ => ⟨0, Int.le_refl 0, rfl, rfl⟩)⟩
      have hc : c < (ns.length : Int) := by
        have := of_decide_eq_true e
        rw [List.length_map] at this
        exact this
      have hi : c.toNat < ns.length := by omega
      have g1 : atI (ns.map V.int) c = some (.int ns[c.toNat]) := atI_q p4 (by rw [List.getElem?_map, List.getElem?_eq_getElem hi]; rfl)
      exact ⟨.ref B.b, rfl, B.b, _, 3, .ref B.L, rfl, rfl, sB, atI_nat (j := 3) rfl, .ref B.b, rfl, B.b, _, 2, .int c, rfl, rfl, sB, atI_nat (j := 2) rfl, B.L, _, c, _, rfl, rfl, hLH, g1, _, p5 _ (List.getElem_mem hi), rfl, rfl⟩
    · obtain ⟨cell, c0, rfl, rfl⟩ := hm
      -- bag[2] += 1
      refine ⟨.ref B.b, rfl, B.b, _, 2, .int c, rfl, rfl, sB, rfl, c, 1, rfl, rfl, B.b, _, 2, 2, rfl, rfl, hb, rfl, ?_⟩
      have g1 : Gr K B G H G (upd H B.b (.lst [.int a, .int b, .int (c + 1), .ref B.L])) := bag_set (Gr.refl j) hL p1 p2 p3 (Int.add_nonneg p4 (by decide)) p5 p6
      -- if cell >= ..: bag[0] = cell
      refine ⟨fun σ H' => ∃ a' : Int, 0 ≤ a' ∧ σ = [some (.ref B.b), some (.int n), some (.int cell), none, none, none, none] ∧ H' B.b = some (.lst [.int a', .int b, .int (c + 1), .ref B.L]) ∧ Gr K B G H G H', ?_, fun σ H' hm => ?_⟩
      · refine ⟨.int cell, rfl, cell, _, rfl, rfl, _, rfl, ite2 (fun _ => ?_) (fun _ => ⟨a, p1, rfl, upd_same, g1⟩)⟩
        refine ⟨.int cell, rfl, .ref B.b, rfl, B.b, _, 0, 0, rfl, rfl, upd_same, rfl, cell, c0, rfl, ?_, ?_⟩
        · rw [upd_same]; rfl
        · exact bag_set g1 hL c0 p2 p3 (Int.add_nonneg p4 (by decide)) p5 p6
      · obtain ⟨a', a0, rfl, hb', g2⟩ := hm
        have sB' : SqL K H' B.b [.int a', .int b, .int (c + 1), .ref B.L] := SqL.of hb'
        refine ⟨.ref B.b, rfl, B.b, _, 1, .int b, rfl, rfl, sB', atI_nat (j := 1) rfl, b, 48271, rfl, rfl, .inr ⟨by decide, by decide⟩, .int cell, rfl, .inl ⟨cell, rfl, cell, 2147483647, rfl, rfl, (by decide : (0 : Int) < 2147483647), _, _, rfl, rfl, ?_⟩⟩
        refine ⟨.ref B.b, rfl, B.b, _, 2, .int (c + 1), rfl, rfl, sB', atI_nat (j := 2) rfl, 7919, c + 1, rfl, rfl, .inl ⟨by decide, by decide⟩, _, _, rfl, rfl, ?_⟩
        refine ⟨_, rfl, .inl ⟨_, rfl, _, 2147483647, rfl, rfl, (by decide : (0 : Int) < 2147483647), .ref B.b, rfl, B.b, _, 1, 1, rfl, rfl, hb', rfl, some (.int cell), _, rfl, ?_⟩⟩
        exact bag_set g2 hL a0 (Int.emod_nonneg _ (by decide)) (Int.emod_lt_of_pos _ (by decide)) (Int.add_nonneg p4 (by decide)) p5 p6
  · obtain ⟨y2, y3, rfl, g⟩ := hm
    obtain ⟨a, b, c, ns, hb, hL, p1, p2, p3, p4, p5, p6⟩ := g.j.bag
    have sB : SqL K H' B.b [.int a, .int b, .int c, .ref B.L] := SqL.of hb
    refine ⟨.ref B.b, rfl, B.b, _, 0, .int a, rfl, rfl, sB, atI_nat (j := 0) rfl, a, 0, rfl, rfl, _, rfl, ite2 (fun _ => ?_) (fun _ => ?_)⟩
    · refine ⟨.ref B.b, rfl, B.b, _, 0, .int a, rfl, rfl, sB, atI_nat (j := 0) rfl, .inl ⟨a, rfl, .int n, rfl, a, n, rfl, rfl, n0, ?_⟩⟩
      refine ⟨.ref B.b, rfl, B.b, _, 0, .int a, rfl, rfl, sB, atI_nat (j := 0) rfl, .int n, rfl, a, n, rfl, rfl, ⟨n0, n1⟩, .ref B.b, rfl, B.b, _, 0, 0, rfl, rfl, hb, rfl, .int (a % n), rfl, ?_⟩
      refine kv _ _ (Int.emod_nonneg _ (by omega)) (Int.emod_lt_of_pos _ n0) ?_
      exact bag_set g hL (Int.ediv_nonneg p1 (by omega)) p2 p3 p4 p5 p6
    · refine ⟨.ref B.b, rfl, B.b, _, 1, .int b, rfl, rfl, sB, atI_nat (j := 1) rfl, b, 1, rfl, rfl, b + 1, 39373, rfl, rfl, .inr ⟨by decide, by decide⟩, .inl ⟨_, rfl, _, 1000000007, rfl, rfl, (by decide : (0 : Int) < 1000000007), ?_⟩⟩
      have q1 : 0 ≤ (b + 1) * 39373 % 1000000007 := Int.emod_nonneg _ (by decide)
      have q2 : (b + 1) * 39373 % 1000000007 < 1000000007 := Int.emod_lt_of_pos _ (by decide)
      have q3 : -(2 ^ 64) < (b + 1) * 39373 % 1000000007 := by omega
      have q4 : (b + 1) * 39373 % 1000000007 < 2 ^ 64 := by omega
      refine ⟨_, rfl, _, rfl, _, _, rfl, rfl, .inl ⟨q3, q4⟩, .inl ⟨_, rfl, _, 998244353, rfl, rfl, (by decide : (0 : Int) < 998244353), _, 30011, rfl, rfl, .inr ⟨by decide, by decide⟩, .inl ⟨_, rfl, _, 998244353, rfl, rfl, (by decide : (0 : Int) < 998244353), ?_⟩⟩⟩
      refine ⟨.int n, rfl, n, 1000000, rfl, rfl, _, rfl, ite2 (fun _ => ?_) (fun _ => ?_)⟩
      · refine ⟨_, rfl, _, 1000000007, rfl, rfl, .inr ⟨by decide, by decide⟩, _, rfl, _, _, rfl, rfl, .inl ⟨_, rfl, .int n, rfl, _, n, rfl, rfl, n0, ?_⟩⟩
        exact kv _ _ (Int.emod_nonneg _ (by omega)) (Int.emod_lt_of_pos _ n0) g
      · refine ⟨_, rfl, _, 7, rfl, rfl, ⟨by decide, by decide⟩, .inl ⟨_, rfl, .int n, rfl, _, n, rfl, rfl, n0, ?_⟩⟩
        exact kv _ _ (Int.emod_nonneg _ (by omega)) (Int.emod_lt_of_pos _ n0) g

def _law_odd_at_5 : DTS := (dFrz 3 (dRet (dOp oIx (dVar 3) (dCall S__law_take (dCons (dVar 0) (dCons (dCall cLen (dCons (dVar 3) dNil)) dNil))))))
def _law_odd_at_4 : DTS := (dSeq (dExt 3 (fLst (dCons (dTup (dCons (dC (.str (Str.ofString "turns"))) (dCons (dC (.str (Str.ofString ""))) (dCons (dC (.str (Str.ofString "1"))) dNil)))) (dCons (dTup (dCons (dC (.str (Str.ofString "always"))) (dCons (dC (.bl true)) dNil))) (dCons (dTup (dCons (dC (.str (Str.ofString "not"))) (dCons (dTup (dCons (dC (.str (Str.ofString "always"))) (dCons (dC (.int 1)) dNil))) dNil))) (dCons (dTup (dCons (dF (fLst dNil)) dNil)) (dCons (dDicT1 (dTup (dCons (dC (.int 0)) (dCons (dC (.int 0)) dNil))) (dC (.str (Str.ofString "1")))) (dCons (dF (fLst (dCons (dTup (dCons (dC (.str (Str.ofString "sun"))) (dCons (dC (.int 0)) dNil))) dNil))) dNil))))))))
  _law_odd_at_5)
def _law_odd_at_3 : DTS := (dSeq (dExt 3 (fLst (dCons (dF (fLst (dCons (dC (.int 1)) dNil))) (dCons (dTup (dCons (dC (.int 0)) dNil)) (dCons (dTup (dCons (dC (.int 0)) (dCons (dC (.int 0)) dNil))) (dCons (dTup (dCons (dC (.int 0)) (dCons (dC (.int 0)) (dCons (dC (.int 0)) dNil)))) (dCons (dTup (dCons (dVar 1) dNil)) (dCons (dF (fLst (dCons (dVar 1) dNil))) (dCons (dDic1 (dVar 1) (dC (.int 1))) (dCons (dTup (dCons (dC (.str (Str.ofString "sun"))) (dCons (dC (.int 0)) dNil))) (dCons (dTup (dCons (dC (.str (Str.ofString "moon"))) (dCons (dC (.int 0)) dNil))) (dCons (dTup (dCons (dC (.str (Str.ofString "sun"))) (dCons (dC (.bl true)) dNil))) dNil))))))))))))
  _law_odd_at_4)
def _law_odd_at_2 : DTS := (dSeq (dSetT 3 (oF (fLst (dCons (dC (.int 0)) (dCons (dC (.int 1)) (dCons (dUn oNeg (dC (.int 1))) (dCons (dC (.int 2)) (dCons (dVar 2) (dCons (dUn oNeg (dVar 2)) (dCons (dC (.bl true)) (dCons (dC (.bl false)) (dCons (dC .non) (dCons (dC (.str (Str.ofString ""))) (dCons (dC (.str (Str.ofString "0"))) (dCons (dC (.str (Str.ofString "1"))) (dCons (dC (.str (Str.ofString "01"))) (dCons (dC (.str (Str.ofString "2"))) (dCons (dC (.str (Str.ofString "a"))) (dCons (dC (.str (Str.ofString " "))) (dCons (dVar 1) (dCons (dC (.str (Str.ofString "Sun"))) (dCons (dF (fLst dNil)) (dCons (dTup dNil) (dCons dDic0 dNil))))))))))))))))))))))))
  _law_odd_at_3)
def t__law_odd : DTS := (dSeq (dSet 2 (dCall cInt (dCons (dOp oAdd (dC (.str (Str.ofString "1"))) (dOp oMul (dC (.str (Str.ofString "0"))) (dCall S__law_take (dCons (dVar 0) (dCons (dC (.int 40)) dNil))))) dNil)))
  _law_odd_at_2)
def S__law_odd : FD := fun ds Q => ds.length = 2 ∧ t__law_odd { nx := fun _ => Q .non, rt := Q } (startD 4 ds)
theorem len__law_odd : ∀ ds Q, S__law_odd ds Q → ds.length = 2 := fun _ _ h => h.1
theorem vc__law_odd : ∀ ds Q, S__law_odd ds Q → t__law_odd { nx := fun _ => Q .non, rt := Q } (startD 4 ds) := fun _ _ h => h.2

theorem ok__law_odd {P : Program} {w : World} {K : PySem.W.Frag} {mg : Str → Option Value} {base : Heap} {B : Bx} (T : Top K mg B.ct) : FnOk P w K mg base CX0 2 T.f__law_odd.f T.f__law_odd.fd ["_law_bag_here", "_law_name"] (spD K B S__law_odd) := by
  refine fn_d (k := 1) (t := t__law_odd) T.f__law_odd.fn sc__law_odd len__law_odd (fun cdv A outer s H E hr => ?_) vc__law_odd
  refine psd_cons ?_ ?_
  · refine (psd_set (i := 2) sc__law_odd.nd rfl (by first | exact .inl rfl | exact .inr rfl) (pd_callTy call_int_d (by rfl) T.n_int (by decide +kernel) (pad_cons (pd_bin op_add_d pd_str (pd_bin op_mul_d pd_str (pd_callD T.f__law_take (ok__law_take T) hr (by decide) (by rfl) (pad_cons (pd_var 0) (pad_cons pd_int pad_nil))))) pad_nil)))
  refine psd_cons ?_ ?_
  · refine (psd_setT (i := 3) sc__law_odd.nd rfl (by first | exact .inl rfl | exact .inr rfl) (po_f (pf_lst (pad_cons pd_int (pad_cons pd_int (pad_cons (pd_un un_neg_d pd_int) (pad_cons pd_int (pad_cons (pd_var 2) (pad_cons (pd_un un_neg_d (pd_var 2)) (pad_cons pd_bl (pad_cons pd_bl (pad_cons pd_non (pad_cons pd_str (pad_cons pd_str (pad_cons pd_str (pad_cons pd_str (pad_cons pd_str (pad_cons pd_str (pad_cons pd_str (pad_cons (pd_var 1) (pad_cons pd_str (pad_cons (pd_f (pf_lst pad_nil)) (pad_cons (pd_tup pad_nil) (pad_cons pd_dic0 pad_nil))))))))))))))))))))))))
  refine psd_cons ?_ ?_
  · refine (psd_ext (i := 3) sc__law_odd.nd rfl (by first | exact .inl rfl | exact .inr rfl) (pf_lst (pad_cons (pd_f (pf_lst (pad_cons pd_int pad_nil))) (pad_cons (pd_tup (pad_cons pd_int pad_nil)) (pad_cons (pd_tup (pad_cons pd_int (pad_cons pd_int pad_nil))) (pad_cons (pd_tup (pad_cons pd_int (pad_cons pd_int (pad_cons pd_int pad_nil)))) (pad_cons (pd_tup (pad_cons (pd_var 1) pad_nil)) (pad_cons (pd_f (pf_lst (pad_cons (pd_var 1) pad_nil))) (pad_cons (pd_dic1 (pd_var 1) pd_int) (pad_cons (pd_tup (pad_cons pd_str (pad_cons pd_int pad_nil))) (pad_cons (pd_tup (pad_cons pd_str (pad_cons pd_int pad_nil))) (pad_cons (pd_tup (pad_cons pd_str (pad_cons pd_bl pad_nil))) pad_nil))))))))))))
  refine psd_cons ?_ ?_
  · refine (psd_ext (i := 3) sc__law_odd.nd rfl (by first | exact .inl rfl | exact .inr rfl) (pf_lst (pad_cons (pd_tup (pad_cons pd_str (pad_cons pd_str (pad_cons pd_str pad_nil)))) (pad_cons (pd_tup (pad_cons pd_str (pad_cons pd_bl pad_nil))) (pad_cons (pd_tup (pad_cons pd_str (pad_cons (pd_tup (pad_cons pd_str (pad_cons pd_int pad_nil))) pad_nil))) (pad_cons (pd_tup (pad_cons (pd_f (pf_lst pad_nil)) pad_nil)) (pad_cons (pd_dicT1 (room_u0 hr) (pd_tup (pad_cons pd_int (pad_cons pd_int pad_nil))) pd_str) (pad_cons (pd_f (pf_lst (pad_cons (pd_tup (pad_cons pd_str (pad_cons pd_int pad_nil))) pad_nil))) pad_nil))))))))
  refine psds_frz 3 ?_
  refine psd_one ?_
  refine (psd_ret (pd_ix ix_d (pd_var 3) (pd_callD T.f__law_take (ok__law_take T) hr (by decide) (by rfl) (pad_cons (pd_var 0) (pad_cons (pd_callB call_len_d (by rfl) T.n_len (by decide +kernel) (pad_cons (pd_var 3) pad_nil)) pad_nil)))))
def t__law_pick : DTS := (dRet (dOp oIx (dVar 1) (dCall S__law_take (dCons (dVar 0) (dCons (dCall cLen (dCons (dVar 1) dNil)) dNil)))))
def S__law_pick : FD := fun ds Q => ds.length = 2 ∧ t__law_pick { nx := fun _ => Q .non, rt := Q } (startD 2 ds)
theorem len__law_pick : ∀ ds Q, S__law_pick ds Q → ds.length = 2 := fun _ _ h => h.1
theorem vc__law_pick : ∀ ds Q, S__law_pick ds Q → t__law_pick { nx := fun _ => Q .non, rt := Q } (startD 2 ds) := fun _ _ h => h.2

theorem ok__law_pick {P : Program} {w : World} {K : PySem.W.Frag} {mg : Str → Option Value} {base : Heap} {B : Bx} (T : Top K mg B.ct) : FnOk P w K mg base CX0 2 T.f__law_pick.f T.f__law_pick.fd ["_law_bag_here", "_law_things"] (spD K B S__law_pick) := by
  refine fn_d (k := 1) (t := t__law_pick) T.f__law_pick.fn sc__law_pick len__law_pick (fun cdv A outer s H E hr => ?_) vc__law_pick
  refine psd_one ?_
  refine (psd_ret (pd_ix ix_d (pd_var 1) (pd_callD T.f__law_take (ok__law_take T) hr (by decide) (by rfl) (pad_cons (pd_var 0) (pad_cons (pd_callB call_len_d (by rfl) T.n_len (by decide +kernel) (pad_cons (pd_var 1) pad_nil)) pad_nil)))))
def _law_thing_at_9 : DTS := (dRet (dOp oIx (dF (fLst (dCons (dVar 2) (dCons (dOp oAdd (dVar 2) (dC (.str (Str.ofString "s")))) (dCons (dSl (dVar 2) (aP (dC (.int 1))) noP) (dCons (dMt "str" mUpper (dVar 2) dNil) (dCons (dOp oAdd (dC (.str (Str.ofString " "))) (dVar 2)) (dCons (dVar 2) dNil)))))))) (dCall S__law_take (dCons (dVar 0) (dCons (dC (.int 6)) dNil)))))
def _law_thing_at_8 : DTS := (dSeq (dSet 2 (dCall S__law_pick (dCons (dVar 0) (dCons (dF (fLst (dCons (dC (.str (Str.ofString "sun"))) (dCons (dC (.str (Str.ofString "moon"))) (dCons (dC (.str (Str.ofString "turns"))) (dCons (dC (.str (Str.ofString "others"))) (dCons (dC (.str (Str.ofString "rounds"))) (dCons (dC (.str (Str.ofString "suns"))) (dCons (dC (.str (Str.ofString "moons"))) (dCons (dC (.str (Str.ofString "always"))) (dCons (dC (.str (Str.ofString "not"))) (dCons (dC (.str (Str.ofString "turn"))) dNil)))))))))))) dNil))))
  _law_thing_at_9)
def _law_thing_at_6 : DTS := (dSeq (dIfS (tBl (dOp oEq (dVar 1) (dC (.int 2)))) (dRet (dOp oMul (dOp oSub (dOp oAdd (dCall cInt (dCons (dOp oAdd (dC (.str (Str.ofString "1"))) (dOp oMul (dC (.str (Str.ofString "0"))) (dCall S__law_take (dCons (dVar 0) (dCons (dC (.int 60)) dNil))))) dNil)) (dCall S__law_take (dCons (dVar 0) (dCons (dC (.int 3)) dNil)))) (dC (.int 1))) (dOp oSub (dC (.int 1)) (dOp oMul (dC (.int 2)) (dCall S__law_take (dCons (dVar 0) (dCons (dC (.int 2)) dNil))))))) dNext)
  _law_thing_at_8)
def _law_thing_at_4 : DTS := (dSeq (dIfS (tBl (dOp oEq (dVar 1) (dC (.int 1)))) (dRet (dMt "str" mJoin (dC (.str (Str.ofString ""))) (dCons (dF (fLc (iR1 (dCons (dCall S__law_take (dCons (dVar 0) (dCons (dC (.int 7)) dNil))) dNil)) (gN 3) dYes (dOp oIx (dC (.str (Str.ofString "0101 2a\n"))) (dCall S__law_take (dCons (dVar 0) (dCons (dC (.int 8)) dNil)))) [3])) dNil))) dNext)
  _law_thing_at_6)
def _law_thing_at_2 : DTS := (dSeq (dIfS (tBl (dOp oEq (dVar 1) (dC (.int 0)))) (dRet (dCall S__law_odd (dCons (dVar 0) (dCons (dC (.str (Str.ofString "turns"))) dNil)))) dNext)
  _law_thing_at_4)
def t__law_thing : DTS := (dSeq (dSet 1 (dCall S__law_take (dCons (dVar 0) (dCons (dC (.int 4)) dNil))))
  _law_thing_at_2)
def S__law_thing : FD := fun ds Q => ds.length = 1 ∧ t__law_thing { nx := fun _ => Q .non, rt := Q } (startD 4 ds)
theorem len__law_thing : ∀ ds Q, S__law_thing ds Q → ds.length = 1 := fun _ _ h => h.1
theorem vc__law_thing : ∀ ds Q, S__law_thing ds Q → t__law_thing { nx := fun _ => Q .non, rt := Q } (startD 4 ds) := fun _ _ h => h.2

theorem ok__law_thing {P : Program} {w : World} {K : PySem.W.Frag} {mg : Str → Option Value} {base : Heap} {B : Bx} (T : Top K mg B.ct) : FnOk P w K mg base CX0 3 T.f__law_thing.f T.f__law_thing.fd ["_law_bag_here"] (spD K B S__law_thing) := by
  refine fn_d (k := 2) (t := t__law_thing) T.f__law_thing.fn sc__law_thing len__law_thing (fun cdv A outer s H E hr => ?_) vc__law_thing
  refine psd_cons ?_ ?_
  · refine (psd_set (i := 1) sc__law_thing.nd rfl (by first | exact .inl rfl | exact .inr rfl) (pd_callD T.f__law_take (ok__law_take T) hr (by decide) (by rfl) (pad_cons (pd_var 0) (pad_cons pd_int pad_nil))))
  refine psd_cons ?_ ?_
  · refine psd_if (ptd_cmp (op_eq_d hr.units) (pd_var 1) pd_int (by rfl)) ?_ ?_
    · refine psd_one ?_
      refine (psd_ret (pd_callD T.f__law_odd (ok__law_odd T) hr (by decide) (by rfl) (pad_cons (pd_var 0) (pad_cons pd_str pad_nil))))
    · exact psd_nil
  refine psd_cons ?_ ?_
  · refine psd_if (ptd_cmp (op_eq_d hr.units) (pd_var 1) pd_int (by rfl)) ?_ ?_
    · refine psd_one ?_
      refine (psd_ret (pd_bm PySem.F.plainAttrs_str PySem.F.slot_str_join PySem.F.type_str_join mt_join_d pd_str (pad_cons (pd_f (pf_lc rfl sc__law_thing.nd (pid_r1 (by rfl) T.n_range ?h3) (blkOk_by (own := [("_law_k", 3)]) (by rfl)) (by decide) (fun _ _ _ _ _ => (pgd_name (i := 3) sc__law_thing.nd rfl (by first | exact .inl rfl | exact .inr rfl))) (fun _ _ _ _ _ => ptsd_nil) (fun _ _ _ _ _ => ?h4))) pad_nil)))
      case h3 => exact (pad_cons (pd_callD T.f__law_take (ok__law_take T) hr (by decide) (by rfl) (pad_cons (pd_var 0) (pad_cons pd_int pad_nil))) pad_nil)
      case h4 => exact (pd_ix ix_d pd_str (pd_callD T.f__law_take (ok__law_take T) hr (by decide) (by rfl) (pad_cons (pd_var 0) (pad_cons pd_int pad_nil))))
    · exact psd_nil
  refine psd_cons ?_ ?_
  · refine psd_if (ptd_cmp (op_eq_d hr.units) (pd_var 1) pd_int (by rfl)) ?_ ?_
    · refine psd_one ?_
      refine (psd_ret (pd_bin op_mul_d (pd_bin op_sub_d (pd_bin op_add_d (pd_callTy call_int_d (by rfl) T.n_int (by decide +kernel) (pad_cons (pd_bin op_add_d pd_str (pd_bin op_mul_d pd_str (pd_callD T.f__law_take (ok__law_take T) hr (by decide) (by rfl) (pad_cons (pd_var 0) (pad_cons pd_int pad_nil))))) pad_nil)) (pd_callD T.f__law_take (ok__law_take T) hr (by decide) (by rfl) (pad_cons (pd_var 0) (pad_cons pd_int pad_nil)))) pd_int) (pd_bin op_sub_d pd_int (pd_bin op_mul_d pd_int (pd_callD T.f__law_take (ok__law_take T) hr (by decide) (by rfl) (pad_cons (pd_var 0) (pad_cons pd_int pad_nil)))))))
    · exact psd_nil
  refine psd_cons ?_ ?_
  · refine (psd_set (i := 2) sc__law_thing.nd rfl (by first | exact .inl rfl | exact .inr rfl) (pd_callD T.f__law_pick (ok__law_pick T) hr (by decide) (by rfl) (pad_cons (pd_var 0) (pad_cons (pd_f (pf_lst (pad_cons pd_str (pad_cons pd_str (pad_cons pd_str (pad_cons pd_str (pad_cons pd_str (pad_cons pd_str (pad_cons pd_str (pad_cons pd_str (pad_cons pd_str (pad_cons pd_str pad_nil)))))))))))) pad_nil))))
  refine psd_one ?_
  refine (psd_ret (pd_ix ix_d (pd_f (pf_lst (pad_cons (pd_var 2) (pad_cons (pd_bin op_add_d (pd_var 2) pd_str) (pad_cons (pd_slice (pd_var 2) (pod_some pd_int) pod_none) (pad_cons (pd_bm0 PySem.F.plainAttrs_str PySem.F.slot_str_upper PySem.F.type_str_upper mt_upper_d (pd_var 2)) (pad_cons (pd_bin op_add_d pd_str (pd_var 2)) (pad_cons (pd_var 2) pad_nil)))))))) (pd_callD T.f__law_take (ok__law_take T) hr (by decide) (by rfl) (pad_cons (pd_var 0) (pad_cons pd_int pad_nil)))))

def b_law_1 : DTS := (dIfS (tNt (tBl (dCall S__law_alike (dCons (dCall S__law_found (dCons (dVar 3) dNil)) (dCons (dCall S__law_due (dCons (dVar 3) dNil)) dNil))))) (dRet (dC (.bl false))) dNext)
def law_at_7 : DTS := (dIfS (tOrr (tNt (tBl (dCall S__law_alike (dCons (dCall S__law_found (dCons (dF (fLst (dCons (dVar 3) dNil))) dNil)) (dCons (dOp oMul (dF (fLst (dCons (dC (.bl false)) dNil))) (dC (.int 6))) dNil))))) (tNt (tBl (dCall S__law_alike (dCons (dCall S__law_found (dCons (dTup (dCons (dVar 3) dNil)) dNil)) (dCons (dOp oMul (dF (fLst (dCons (dC (.bl false)) dNil))) (dC (.int 6))) dNil)))))) (dRet (dC (.bl false))) dNext)
def law_at_4 : DTS := (dSeq (dFor (iR1 (dCons (dC (.int 2)) dNil)) (gN 4) b_law_1)
  law_at_7)
def b_law_2 : DTS := (dSeq (dSet 3 (dCall S__law_thing (dCons (dVar 1) dNil)))
  law_at_4)
def law_at_9 : DTS := (dRet (dC (.bl true)))
def t_law : DTS := (dSeq (dFor (iR1 (dCons (dC (.int 40)) dNil)) (gN 2) b_law_2)
  law_at_9)
theorem forD_c {g : DG} {tb : DTS} {W : DEnds} {d : D} {ds : List D} {δ : DS} : forD g tb W (d :: ds) δ = g d δ fun δ' => tb { W with nx := forD g tb W ds, ct := forD g tb W ds, bk := W.nx } δ' := propext Iff.rfl
/-! what kind of data a thing is -/
def kindOk : D → Bool
  | .non => true
  | .bl _ => true
  | .int _ => true
  | .str x => decide (x.length ≤ 1000)
  | .lst _ => true
  | .tup _ => true
  | .dic _ => true
  | _ => false
theorem ten_pow : ∀ n : Nat, n < 61 → intText? (Str.ofString "1" ++ repS (Str.ofString "0") n) = some ((10 ^ n : Nat) : Int) := by decide +kernel
theorem ten_len (n : Nat) : (Str.ofString "1" ++ repS (Str.ofString "0") n).length = n + 1 := by
  rw [strLen_append]
  have e1 : (Str.ofString "1").length = 1 := by decide +kernel
  have e2 : (repS (Str.ofString "0") n).length = n := by
    show (List.replicate n (Str.ofString "0").cps.toList).flatten.toArray.size = _
    rw [List.size_toArray, List.length_flatten, List.map_replicate, List.sum_replicate_nat]
    have : (Str.ofString "0").cps.toList.length = 1 := by decide +kernel
    rw [this]; omega
  rw [e1, e2]; omega
abbrev oddL (nm : Str) (w : Int) : List D := [.int 0, .int 1, .int (-1), .int 2, .int w, .int (-w), .bl true, .bl false, .non, .str (Str.ofString ""), .str (Str.ofString "0"), .str (Str.ofString "1"), .str (Str.ofString "01"), .str (Str.ofString "2"), .str (Str.ofString "a"), .str (Str.ofString " "), .str nm, .str (Str.ofString "Sun"), .lst [], .tup [], .dic [],
  .lst [.int 1], .tup [.int 0], .tup [.int 0, .int 0], .tup [.int 0, .int 0, .int 0], .tup [.str nm], .lst [.str nm], .dic [(.str nm, .int 1)], .tup [.str (Str.ofString "sun"), .int 0], .tup [.str (Str.ofString "moon"), .int 0], .tup [.str (Str.ofString "sun"), .bl true],
  .tup [.str (Str.ofString "turns"), .str (Str.ofString ""), .str (Str.ofString "1")], .tup [.str (Str.ofString "always"), .bl true], .tup [.str (Str.ofString "not"), .tup [.str (Str.ofString "always"), .int 1]], .tup [.lst []], .dic [(.tup [.int 0, .int 0], .str (Str.ofString "1"))], .lst [.tup [.str (Str.ofString "sun"), .int 0]]]
theorem pick_at {xs : List D} {a : Int} {Q : D → Prop} (a0 : 0 ≤ a) (a1 : a < xs.length) (h : ∀ d ∈ xs, Q d) : oIx (.lst xs) (.int a) Q := by
  show (match atI xs a with | some d => Q d | none => False)
  obtain ⟨k, rfl⟩ : ∃ k : Nat, a = k := ⟨a.toNat, by omega⟩
  have hk : k < xs.length := by omega
  have e : atI xs (k : Int) = some xs[k] := atI_q (by omega) (by rw [Int.toNat_natCast]; exact List.getElem?_eq_getElem hk)
  rw [e]
  exact h _ (List.getElem_mem hk)
theorem odd_ok {nm : Str} {Q : D → Prop} (hn : nm.length ≤ 1000) (hq : ∀ d, kindOk d = true → Q d) : S__law_odd [.bag, .str nm] Q := by
  refine ⟨rfl, ?_⟩
  show t__law_odd _ [some (.sh .bag), some (.sh (.str nm)), none, none]
  simp only [t__law_odd, ↓zHd0, zHp0, ↓zGd0, ↓zGd1, ↓zGd2, ↓zGd3, ↓zGd4, zGp0, startD, ↓List.map_cons, ↓List.map_nil, ↓List.length_cons, ↓List.length_nil, Nat.reduceAdd, Nat.reduceSub, Nat.sub_self, List.replicate, ↓List.cons_append, ↓List.nil_append, List.append_nil, ↓List.getElem?_cons_zero, ↓List.getElem?_cons_succ, ↓List.set_cons_zero, ↓List.set_cons_succ, wipeD, Bool.not_true, Bool.not_false, decide_true, decide_false, beq_self_eq_true, true_and, and_true, Nat.reduceLeDiff, toDs, toDk, toDs_sh]
  refine ⟨⟨by decide, by decide +kernel⟩, fun v v0 v1 => ?_⟩
  simp only [↓zHd0, zHp0, ↓zGd0, ↓zGd1, ↓zGd2, ↓zGd3, ↓zGd4, zGp0, startD, ↓List.map_cons, ↓List.map_nil, ↓List.length_cons, ↓List.length_nil, Nat.reduceAdd, Nat.reduceSub, Nat.sub_self, List.replicate, ↓List.cons_append, ↓List.nil_append, List.append_nil, ↓List.getElem?_cons_zero, ↓List.getElem?_cons_succ, ↓List.set_cons_zero, ↓List.set_cons_succ, wipeD, Bool.not_true, Bool.not_false, decide_true, decide_false, beq_self_eq_true, true_and, and_true, Nat.reduceLeDiff, toDs, toDk, toDs_sh]
  have e1 : (Str.ofString "1").length = 1 := by decide +kernel
  have e0 : (Str.ofString "0").length = 1 := by decide +kernel
  have hv : v.toNat < 61 := by omega
  have e2 := ten_len v.toNat
  rw [strLen_append] at e2
  refine ⟨⟨v0, by omega, by rw [e0]; decide⟩, by rw [e2, sizeLine_eq]; omega, ?_⟩
  show (match intText? (Str.ofString "1" ++ repS (Str.ofString "0") v.toNat) with | some i => _ | none => False)
  rw [ten_pow _ hv]
  refine ⟨by rw [ten_len]; omega, ?_⟩
  generalize ((10 ^ v.toNat : Nat) : Int) = w
  simp only [_law_odd_at_2, ↓zHd0, zHp0, ↓zGd0, ↓zGd1, ↓zGd2, ↓zGd3, ↓zGd4, zGp0, startD, ↓List.map_cons, ↓List.map_nil, ↓List.length_cons, ↓List.length_nil, Nat.reduceAdd, Nat.reduceSub, Nat.sub_self, List.replicate, ↓List.cons_append, ↓List.nil_append, List.append_nil, ↓List.getElem?_cons_zero, ↓List.getElem?_cons_succ, ↓List.set_cons_zero, ↓List.set_cons_succ, wipeD, Bool.not_true, Bool.not_false, decide_true, decide_false, beq_self_eq_true, true_and, and_true, Nat.reduceLeDiff, toDs, toDk, toDs_sh]
  intro v3
  simp only [_law_odd_at_3, ↓zHd0, zHp0, ↓zGd0, ↓zGd1, ↓zGd2, ↓zGd3, ↓zGd4, zGp0, startD, ↓List.map_cons, ↓List.map_nil, ↓List.length_cons, ↓List.length_nil, Nat.reduceAdd, Nat.reduceSub, Nat.sub_self, List.replicate, ↓List.cons_append, ↓List.nil_append, List.append_nil, ↓List.getElem?_cons_zero, ↓List.getElem?_cons_succ, ↓List.set_cons_zero, ↓List.set_cons_succ, wipeD, Bool.not_true, Bool.not_false, decide_true, decide_false, beq_self_eq_true, true_and, and_true, Nat.reduceLeDiff, toDs, toDk, toDs_sh]
  refine ⟨rfl, by rw [sizeLine_eq]; decide, ?_⟩
  simp only [_law_odd_at_4, ↓zHd0, zHp0, ↓zGd0, ↓zGd1, ↓zGd2, ↓zGd3, ↓zGd4, zGp0, startD, ↓List.map_cons, ↓List.map_nil, ↓List.length_cons, ↓List.length_nil, Nat.reduceAdd, Nat.reduceSub, Nat.sub_self, List.replicate, ↓List.cons_append, ↓List.nil_append, List.append_nil, ↓List.getElem?_cons_zero, ↓List.getElem?_cons_succ, ↓List.set_cons_zero, ↓List.set_cons_succ, wipeD, Bool.not_true, Bool.not_false, decide_true, decide_false, beq_self_eq_true, true_and, and_true, Nat.reduceLeDiff, toDs, toDk, toDs_sh]
  refine ⟨rfl, by rw [sizeLine_eq]; decide, ?_⟩
  simp only [_law_odd_at_5, ↓zHd0, zHp0, ↓zGd0, ↓zGd1, ↓zGd2, ↓zGd3, ↓zGd4, zGp0, startD, ↓List.map_cons, ↓List.map_nil, ↓List.length_cons, ↓List.length_nil, Nat.reduceAdd, Nat.reduceSub, Nat.sub_self, List.replicate, ↓List.cons_append, ↓List.nil_append, List.append_nil, ↓List.getElem?_cons_zero, ↓List.getElem?_cons_succ, ↓List.set_cons_zero, ↓List.set_cons_succ, wipeD, Bool.not_true, Bool.not_false, decide_true, decide_false, beq_self_eq_true, true_and, and_true, Nat.reduceLeDiff, toDs, toDk, toDs_sh]
  refine ⟨⟨by decide, by decide +kernel⟩, fun a a0 a1 => ?_⟩
  refine pick_at a0 (by exact a1) fun d hd => hq d ?_
  have all : ∀ d ∈ oddL nm w, kindOk d = true := by
    rw [← List.all_eq_true]
    unfold oddL
    simp only [List.all_cons, List.all_nil, kindOk]
    rw [decide_eq_true hn]
    decide +kernel
  exact all d hd
/-! x.replace("0", "").replace("1", "") == "" -/
theorem replL_one (c : Nat) : ∀ l : List Nat, PySem.StrLaws.replL [c] [] l = l.filter fun a => !decide (a = c)
  | [] => PySem.StrLaws.replL_nil
  | a :: r => by
    by_cases h : a = c
    · subst h
      rw [PySem.StrLaws.replL_hit (by simp) (by rfl), List.filter_cons, decide_eq_true rfl]
      show [] ++ PySem.StrLaws.replL [a] [] r = _
      rw [List.nil_append, replL_one a r]
      rfl
    · rw [PySem.StrLaws.replL_miss (fun z => h (by simpa using z)), List.filter_cons, decide_eq_false h, replL_one c r]
      rfl
theorem rep_one (x : Str) (s : String) (c : Nat) (e : (Str.ofString s).cps.toList = [c]) (e1 : (Str.ofString s).length = 1) : (Txt.replace x (Str.ofString s) (Str.ofString "")).cps.toList = x.cps.toList.filter fun a => !decide (a = c) := by
  rw [PySem.StrLaws.replace_list (by rw [e1]; decide), e, show (Str.ofString "").cps.toList = [] by decide +kernel, replL_one]
theorem repl_len0 (x y : Str) : (Txt.replace x y (Str.ofString "")).length ≤ x.length := by
  have := TK.replace_len x y (Str.ofString "")
  rw [show (Str.ofString "").length = 0 by decide +kernel, Nat.mul_zero] at this
  exact this
def bitL (x : Str) : Bool := x.cps.toList.all fun c => decide (c = 48) || decide (c = 49)
theorem rep_bits (x : Str) : decide (Txt.replace (Txt.replace x (Str.ofString "0") (Str.ofString "")) (Str.ofString "1") (Str.ofString "") = Str.ofString "") = bitL x := by
  have e : (Txt.replace (Txt.replace x (Str.ofString "0") (Str.ofString "")) (Str.ofString "1") (Str.ofString "") = Str.ofString "") ↔ (x.cps.toList.filter fun a => !decide (a = 48)).filter (fun a => !decide (a = 49)) = [] := by
    have l := rep_one (Txt.replace x (Str.ofString "0") (Str.ofString "")) "1" 49 (by decide +kernel) (by decide +kernel)
    rw [rep_one x "0" 48 (by decide +kernel) (by decide +kernel)] at l
    constructor
    · intro h
      rw [h] at l
      rw [← l]
      decide +kernel
    · intro h
      rw [h] at l
      exact str_ext (l.trans (by decide +kernel))
  unfold bitL
  rw [Bool.eq_iff_iff, decide_eq_true_eq, e, List.filter_eq_nil_iff, List.all_eq_true]
  constructor
  · intro h a ha
    by_cases z : a = 48
    · rw [decide_eq_true z]; rfl
    · have := h a (List.mem_filter.mpr ⟨ha, by rw [decide_eq_false z]; rfl⟩)
      by_cases z2 : a = 49
      · rw [decide_eq_true z2, Bool.or_true]
      · rw [decide_eq_false z2] at this
        exact absurd rfl this
  · intro h a ha
    obtain ⟨h1, h2⟩ := List.mem_filter.mp ha
    have := h a h1
    by_cases z : a = 48
    · rw [decide_eq_true z] at h2
      cases h2
    · rw [decide_eq_false z, Bool.false_or] at this
      rw [this]
      decide
theorem rep_fits {x : Str} (h : x.length ≤ 1000) : x.length + (x.length + 1) * (Str.ofString "").length ≤ 16777216 ∧ (Txt.replace x (Str.ofString "0") (Str.ofString "")).length + ((Txt.replace x (Str.ofString "0") (Str.ofString "")).length + 1) * (Str.ofString "").length ≤ 16777216 := by
  have := repl_len0 x (Str.ofString "0")
  rw [show (Str.ofString "").length = 0 by decide +kernel, Nat.mul_zero, Nat.mul_zero]
  omega
/-! what is found -/
def fI : D → Bool
  | .int _ => true
  | _ => false
def fC : D → Bool
  | .int i => decide (0 ≤ i)
  | _ => false
def fN : D → Bool
  | .int i => decide (0 < i)
  | _ => false
def fB : D → Bool
  | .str x => bitL x
  | _ => false
def sideL (x : Str) : Bool := decide (x = Str.ofString "sun") || decide (x = Str.ofString "moon")
def fS : D → Bool
  | .str x => sideL x
  | _ => false
def readL (x : Str) : Bool := decide (x = Str.ofString "turns") || decide (x = Str.ofString "others") || decide (x = Str.ofString "rounds") || decide (x = Str.ofString "suns") || decide (x = Str.ofString "moons")
def fR : D → Bool
  | .str x => readL x
  | _ => false
theorem zS_iss {x : Str} : isi "str" (.str x) = true := by rfl
theorem zS_iis {x : Str} : isi "int" (.str x) = false := by rfl
theorem zS_iii {x : Int} : isi "int" (.int x) = true := by rfl
theorem zS_ibi {x : Int} : isi "bool" (.int x) = false := by rfl
theorem zS_isi {x : Int} : isi "str" (.int x) = false := by rfl
theorem zS_iib {x : Bool} : isi "int" (.bl x) = true := by rfl
theorem zS_ibb {x : Bool} : isi "bool" (.bl x) = true := by rfl
theorem zS_isb {x : Bool} : isi "str" (.bl x) = false := by rfl
theorem zS_iin : isi "int" .non = false := by rfl
theorem zS_isn : isi "str" .non = false := by rfl
theorem zS_iil {x : List D} : isi "int" (.lst x) = false := by rfl
theorem zS_isl {x : List D} : isi "str" (.lst x) = false := by rfl
theorem zS_iit {x : List D} : isi "int" (.tup x) = false := by rfl
theorem zS_ist {x : List D} : isi "str" (.tup x) = false := by rfl
theorem zS_iid {x : List (D × D)} : isi "int" (.dic x) = false := by rfl
theorem zS_isd {x : List (D × D)} : isi "str" (.dic x) = false := by rfl
theorem isint_ok {d : D} {Q : D → Prop} (h : kindOk d = true) (hq : Q (.bl (fI d))) : S_is_integer [d] Q := by
  refine ⟨rfl, ?_⟩
  show t_is_integer _ [some (.sh d)]
  simp only [t_is_integer, ↓zHd0, zHp0, ↓zGd0, ↓zGd1, ↓zGd2, ↓zGd3, ↓zGd4, zGp0, startD, ↓List.map_cons, ↓List.map_nil, ↓List.length_cons, ↓List.length_nil, Nat.reduceAdd, Nat.reduceSub, Nat.sub_self, List.replicate, ↓List.cons_append, ↓List.nil_append, List.append_nil, ↓List.getElem?_cons_zero, ↓List.getElem?_cons_succ, ↓List.set_cons_zero, ↓List.set_cons_succ, wipeD, Bool.not_true, Bool.not_false, decide_true, decide_false, beq_self_eq_true, true_and, and_true, Nat.reduceLeDiff, toDs, toDk, toDs_sh, ↓zS_iss, ↓zS_iis, ↓zS_iii, ↓zS_ibi, ↓zS_isi, ↓zS_iib, ↓zS_ibb, ↓zS_isb, ↓zS_iin, ↓zS_isn, ↓zS_iil, ↓zS_isl, ↓zS_iit, ↓zS_ist, ↓zS_iid, ↓zS_isd]
  cases d with
  | obj => cases h
  | bag => cases h
  | ktup => cases h
  | _ => exact hq
theorem count_ok {d : D} {Q : D → Prop} (h : kindOk d = true) (hq : Q (.bl (fC d))) : S_is_count [d] Q := by
  refine ⟨rfl, ?_⟩
  show t_is_count _ [some (.sh d)]
  simp only [t_is_count, ↓zHd0, zHp0, ↓zGd0, ↓zGd1, ↓zGd2, ↓zGd3, ↓zGd4, zGp0, startD, ↓List.map_cons, ↓List.map_nil, ↓List.length_cons, ↓List.length_nil, Nat.reduceAdd, Nat.reduceSub, Nat.sub_self, List.replicate, ↓List.cons_append, ↓List.nil_append, List.append_nil, ↓List.getElem?_cons_zero, ↓List.getElem?_cons_succ, ↓List.set_cons_zero, ↓List.set_cons_succ, wipeD, Bool.not_true, Bool.not_false, decide_true, decide_false, beq_self_eq_true, true_and, and_true, Nat.reduceLeDiff, toDs, toDk, toDs_sh, ↓zS_iss, ↓zS_iis, ↓zS_iii, ↓zS_ibi, ↓zS_isi, ↓zS_iib, ↓zS_ibb, ↓zS_isb, ↓zS_iin, ↓zS_isn, ↓zS_iil, ↓zS_isl, ↓zS_iit, ↓zS_ist, ↓zS_iid, ↓zS_isd]
  refine isint_ok h ?_
  cases d with
  | int i =>
    simp only [fI, ↓zHd0, zHp0, ↓zGd0, ↓zGd1, ↓zGd2, ↓zGd3, ↓zGd4, zGp0, startD, ↓List.map_cons, ↓List.map_nil, ↓List.length_cons, ↓List.length_nil, Nat.reduceAdd, Nat.reduceSub, Nat.sub_self, List.replicate, ↓List.cons_append, ↓List.nil_append, List.append_nil, ↓List.getElem?_cons_zero, ↓List.getElem?_cons_succ, ↓List.set_cons_zero, ↓List.set_cons_succ, wipeD, Bool.not_true, Bool.not_false, decide_true, decide_false, beq_self_eq_true, true_and, and_true, Nat.reduceLeDiff, toDs, toDk, toDs_sh, ↓zS_iss, ↓zS_iis, ↓zS_iii, ↓zS_ibi, ↓zS_isi, ↓zS_iib, ↓zS_ibb, ↓zS_isb, ↓zS_iin, ↓zS_isn, ↓zS_iil, ↓zS_isl, ↓zS_iit, ↓zS_ist, ↓zS_iid, ↓zS_isd]
    exact hq
  | obj => cases h
  | bag => cases h
  | ktup => cases h
  | _ => exact hq
theorem number_ok {d : D} {Q : D → Prop} (h : kindOk d = true) (hq : Q (.bl (fN d))) : S_is_number [d] Q := by
  refine ⟨rfl, ?_⟩
  show t_is_number _ [some (.sh d)]
  simp only [t_is_number, ↓zHd0, zHp0, ↓zGd0, ↓zGd1, ↓zGd2, ↓zGd3, ↓zGd4, zGp0, startD, ↓List.map_cons, ↓List.map_nil, ↓List.length_cons, ↓List.length_nil, Nat.reduceAdd, Nat.reduceSub, Nat.sub_self, List.replicate, ↓List.cons_append, ↓List.nil_append, List.append_nil, ↓List.getElem?_cons_zero, ↓List.getElem?_cons_succ, ↓List.set_cons_zero, ↓List.set_cons_succ, wipeD, Bool.not_true, Bool.not_false, decide_true, decide_false, beq_self_eq_true, true_and, and_true, Nat.reduceLeDiff, toDs, toDk, toDs_sh, ↓zS_iss, ↓zS_iis, ↓zS_iii, ↓zS_ibi, ↓zS_isi, ↓zS_iib, ↓zS_ibb, ↓zS_isb, ↓zS_iin, ↓zS_isn, ↓zS_iil, ↓zS_isl, ↓zS_iit, ↓zS_ist, ↓zS_iid, ↓zS_isd]
  refine isint_ok h ?_
  cases d with
  | int i =>
    simp only [fI, ↓zHd0, zHp0, ↓zGd0, ↓zGd1, ↓zGd2, ↓zGd3, ↓zGd4, zGp0, startD, ↓List.map_cons, ↓List.map_nil, ↓List.length_cons, ↓List.length_nil, Nat.reduceAdd, Nat.reduceSub, Nat.sub_self, List.replicate, ↓List.cons_append, ↓List.nil_append, List.append_nil, ↓List.getElem?_cons_zero, ↓List.getElem?_cons_succ, ↓List.set_cons_zero, ↓List.set_cons_succ, wipeD, Bool.not_true, Bool.not_false, decide_true, decide_false, beq_self_eq_true, true_and, and_true, Nat.reduceLeDiff, toDs, toDk, toDs_sh, ↓zS_iss, ↓zS_iis, ↓zS_iii, ↓zS_ibi, ↓zS_isi, ↓zS_iib, ↓zS_ibb, ↓zS_isb, ↓zS_iin, ↓zS_isn, ↓zS_iil, ↓zS_isl, ↓zS_iit, ↓zS_ist, ↓zS_iid, ↓zS_isd]
    rw [show decide (1 ≤ i) = decide (0 < i) from decide_eq_decide.mpr (by omega)]
    exact hq
  | obj => cases h
  | bag => cases h
  | ktup => cases h
  | _ => exact hq
theorem all_b {α : Type} {f : α → Bool} {xs : List α} {Q : D → Prop} (hq : Q (.bl (xs.all f))) : cAll [.lst (xs.map fun x => D.bl (f x))] Q := by
  show (match blsOf (xs.map fun x => D.bl (f x)) with | some bs => Q (.bl (bs.all id)) | none => False)
  have e : blsOf (xs.map fun x => D.bl (f x)) = some (xs.map f) := by
    clear hq
    induction xs with
    | nil => rfl
    | cons x xs ih =>
      rw [List.map_cons, blsOf, ih]
      rfl
  rw [e]
  show Q (.bl ((xs.map f).all id))
  rw [List.all_map]
  exact hq
theorem bits_ok {d : D} {Q : D → Prop} (h : kindOk d = true) (hq : Q (.bl (fB d))) : S_are_bits [d] Q := by
  refine ⟨rfl, ?_⟩
  show t_are_bits _ [some (.sh d), none]
  simp only [t_are_bits, ↓zHd0, zHp0, ↓zGd0, ↓zGd1, ↓zGd2, ↓zGd3, ↓zGd4, zGp0, startD, ↓List.map_cons, ↓List.map_nil, ↓List.length_cons, ↓List.length_nil, Nat.reduceAdd, Nat.reduceSub, Nat.sub_self, List.replicate, ↓List.cons_append, ↓List.nil_append, List.append_nil, ↓List.getElem?_cons_zero, ↓List.getElem?_cons_succ, ↓List.set_cons_zero, ↓List.set_cons_succ, wipeD, Bool.not_true, Bool.not_false, decide_true, decide_false, beq_self_eq_true, true_and, and_true, Nat.reduceLeDiff, toDs, toDk, toDs_sh, ↓zS_iss, ↓zS_iis, ↓zS_iii, ↓zS_ibi, ↓zS_isi, ↓zS_iib, ↓zS_ibb, ↓zS_isb, ↓zS_iin, ↓zS_isn, ↓zS_iil, ↓zS_isl, ↓zS_iit, ↓zS_ist, ↓zS_iid, ↓zS_isd]
  cases d with
  | str x =>
    have hx : x.length ≤ 1000 := of_decide_eq_true h
    simp only [↓zHd0, zHp0, ↓zGd0, ↓zGd1, ↓zGd2, ↓zGd3, ↓zGd4, zGp0, startD, ↓List.map_cons, ↓List.map_nil, ↓List.length_cons, ↓List.length_nil, Nat.reduceAdd, Nat.reduceSub, Nat.sub_self, List.replicate, ↓List.cons_append, ↓List.nil_append, List.append_nil, ↓List.getElem?_cons_zero, ↓List.getElem?_cons_succ, ↓List.set_cons_zero, ↓List.set_cons_succ, wipeD, Bool.not_true, Bool.not_false, decide_true, decide_false, beq_self_eq_true, true_and, and_true, Nat.reduceLeDiff, toDs, toDk, toDs_sh, ↓zS_iss, ↓zS_iis, ↓zS_iii, ↓zS_ibi, ↓zS_isi, ↓zS_iib, ↓zS_ibb, ↓zS_isb, ↓zS_iin, ↓zS_isn, ↓zS_iil, ↓zS_isl, ↓zS_iit, ↓zS_ist, ↓zS_iid, ↓zS_isd]
    refine ⟨by rw [chars_len, sizeLine_eq]; omega, ?_⟩
    rw [chars_eq]
    refine lc_of (α := Nat) sg (fun c => .bl (decide (c = 48) || decide (c = 49))) x.cps.toList [] (fun c hc Q2 hQ2 => ?_) ?_
    · simp only [↓zHd0, zHp0, ↓zGd0, ↓zGd1, ↓zGd2, ↓zGd3, ↓zGd4, zGp0, startD, ↓List.map_cons, ↓List.map_nil, ↓List.length_cons, ↓List.length_nil, Nat.reduceAdd, Nat.reduceSub, Nat.sub_self, List.replicate, ↓List.cons_append, ↓List.nil_append, List.append_nil, ↓List.getElem?_cons_zero, ↓List.getElem?_cons_succ, ↓List.set_cons_zero, ↓List.set_cons_succ, wipeD, Bool.not_true, Bool.not_false, decide_true, decide_false, beq_self_eq_true, true_and, and_true, Nat.reduceLeDiff, toDs, toDk, toDs_sh, ↓zS_iss, ↓zS_iis, ↓zS_iii, ↓zS_ibi, ↓zS_isi, ↓zS_iib, ↓zS_ibb, ↓zS_isb, ↓zS_iin, ↓zS_isn, ↓zS_iil, ↓zS_isl, ↓zS_iit, ↓zS_ist, ↓zS_iid, ↓zS_isd]
      show Q2 (.bl (decide (c ∈ (Str.ofString "01").cps.toList)))
      rw [show (Str.ofString "01").cps.toList = [48, 49] by decide +kernel]
      rw [show decide (c ∈ [48, 49]) = (decide (c = 48) || decide (c = 49)) by
        rw [← Bool.decide_or, decide_eq_decide]; simp]
      exact hQ2
    · simp only [↓zHd0, zHp0, ↓zGd0, ↓zGd1, ↓zGd2, ↓zGd3, ↓zGd4, zGp0, startD, ↓List.map_cons, ↓List.map_nil, ↓List.length_cons, ↓List.length_nil, Nat.reduceAdd, Nat.reduceSub, Nat.sub_self, List.replicate, ↓List.cons_append, ↓List.nil_append, List.append_nil, ↓List.getElem?_cons_zero, ↓List.getElem?_cons_succ, ↓List.set_cons_zero, ↓List.set_cons_succ, wipeD, Bool.not_true, Bool.not_false, decide_true, decide_false, beq_self_eq_true, true_and, and_true, Nat.reduceLeDiff, toDs, toDk, toDs_sh, ↓zS_iss, ↓zS_iis, ↓zS_iii, ↓zS_ibi, ↓zS_isi, ↓zS_iib, ↓zS_ibb, ↓zS_isb, ↓zS_iin, ↓zS_isn, ↓zS_iil, ↓zS_isl, ↓zS_iit, ↓zS_ist, ↓zS_iid, ↓zS_isd]
      exact all_b (f := fun c => decide (c = 48) || decide (c = 49)) hq
  | obj => cases h
  | bag => cases h
  | ktup => cases h
  | _ => exact hq
theorem eq_sw (a b : Str) : (a == b) = decide (b = a) := by
  rw [Bool.beq_eq_decide_eq, decide_eq_decide]
  exact ⟨Eq.symm, Eq.symm⟩
theorem in_side {x : Str} : inD (.str x) [.str (Str.ofString "sun"), .str (Str.ofString "moon")] = sideL x := by
  show ((Str.ofString "sun" == x) || ((Str.ofString "moon" == x) || false)) = _
  unfold sideL
  rw [eq_sw, eq_sw, Bool.or_false]
theorem side_ok {d : D} {Q : D → Prop} (h : kindOk d = true) (hq : Q (.bl (fS d))) : S_is_side [d] Q := by
  refine ⟨rfl, ?_⟩
  show t_is_side _ [some (.sh d)]
  simp only [t_is_side, ↓zHd0, zHp0, ↓zGd0, ↓zGd1, ↓zGd2, ↓zGd3, ↓zGd4, zGp0, startD, ↓List.map_cons, ↓List.map_nil, ↓List.length_cons, ↓List.length_nil, Nat.reduceAdd, Nat.reduceSub, Nat.sub_self, List.replicate, ↓List.cons_append, ↓List.nil_append, List.append_nil, ↓List.getElem?_cons_zero, ↓List.getElem?_cons_succ, ↓List.set_cons_zero, ↓List.set_cons_succ, wipeD, Bool.not_true, Bool.not_false, decide_true, decide_false, beq_self_eq_true, true_and, and_true, Nat.reduceLeDiff, toDs, toDk, toDs_sh, ↓zS_iss, ↓zS_iis, ↓zS_iii, ↓zS_ibi, ↓zS_isi, ↓zS_iib, ↓zS_ibb, ↓zS_isb, ↓zS_iin, ↓zS_isn, ↓zS_iil, ↓zS_isl, ↓zS_iit, ↓zS_ist, ↓zS_iid, ↓zS_isd]
  cases d with
  | str x =>
    simp only [↓zHd0, zHp0, ↓zGd0, ↓zGd1, ↓zGd2, ↓zGd3, ↓zGd4, zGp0, startD, ↓List.map_cons, ↓List.map_nil, ↓List.length_cons, ↓List.length_nil, Nat.reduceAdd, Nat.reduceSub, Nat.sub_self, List.replicate, ↓List.cons_append, ↓List.nil_append, List.append_nil, ↓List.getElem?_cons_zero, ↓List.getElem?_cons_succ, ↓List.set_cons_zero, ↓List.set_cons_succ, wipeD, Bool.not_true, Bool.not_false, decide_true, decide_false, beq_self_eq_true, true_and, and_true, Nat.reduceLeDiff, toDs, toDk, toDs_sh, ↓zS_iss, ↓zS_iis, ↓zS_iii, ↓zS_ibi, ↓zS_isi, ↓zS_iib, ↓zS_ibb, ↓zS_isb, ↓zS_iin, ↓zS_isn, ↓zS_iil, ↓zS_isl, ↓zS_iit, ↓zS_ist, ↓zS_iid, ↓zS_isd]
    show (true = true ∧ true = true) ∧ Q (.bl (inD (.str x) [.str (Str.ofString "moon"), .str (Str.ofString "sun")]))
    refine ⟨⟨rfl, rfl⟩, ?_⟩
    have e : inD (.str x) [.str (Str.ofString "moon"), .str (Str.ofString "sun")] = sideL x := by
      show ((Str.ofString "moon" == x) || ((Str.ofString "sun" == x) || false)) = _
      unfold sideL
      rw [Bool.or_false, Bool.or_comm, Bool.beq_eq_decide_eq, Bool.beq_eq_decide_eq]
      congr 1 <;> rw [decide_eq_decide] <;> exact ⟨Eq.symm, Eq.symm⟩
    rw [e]
    exact hq
  | obj => cases h
  | bag => cases h
  | ktup => cases h
  | _ => exact hq
theorem in_read {x : Str} : inD (.str x) [.str (Str.ofString "turns"), .str (Str.ofString "others"), .str (Str.ofString "rounds"), .str (Str.ofString "suns"), .str (Str.ofString "moons")] = readL x := by
  show ((Str.ofString "turns" == x) || ((Str.ofString "others" == x) || ((Str.ofString "rounds" == x) || ((Str.ofString "suns" == x) || ((Str.ofString "moons" == x) || false))))) = _
  unfold readL
  rw [eq_sw, eq_sw, eq_sw, eq_sw, eq_sw, Bool.or_false, Bool.or_assoc, Bool.or_assoc, Bool.or_assoc]
theorem reader_ok {d : D} {Q : D → Prop} (h : kindOk d = true) (hq : Q (.bl (fR d))) : S_is_reader [d] Q := by
  refine ⟨rfl, ?_⟩
  show t_is_reader _ [some (.sh d)]
  simp only [t_is_reader, ↓zHd0, zHp0, ↓zGd0, ↓zGd1, ↓zGd2, ↓zGd3, ↓zGd4, zGp0, startD, ↓List.map_cons, ↓List.map_nil, ↓List.length_cons, ↓List.length_nil, Nat.reduceAdd, Nat.reduceSub, Nat.sub_self, List.replicate, ↓List.cons_append, ↓List.nil_append, List.append_nil, ↓List.getElem?_cons_zero, ↓List.getElem?_cons_succ, ↓List.set_cons_zero, ↓List.set_cons_succ, wipeD, Bool.not_true, Bool.not_false, decide_true, decide_false, beq_self_eq_true, true_and, and_true, Nat.reduceLeDiff, toDs, toDk, toDs_sh, ↓zS_iss, ↓zS_iis, ↓zS_iii, ↓zS_ibi, ↓zS_isi, ↓zS_iib, ↓zS_ibb, ↓zS_isb, ↓zS_iin, ↓zS_isn, ↓zS_iil, ↓zS_isl, ↓zS_iit, ↓zS_ist, ↓zS_iid, ↓zS_isd]
  cases d with
  | str x =>
    simp only [↓zHd0, zHp0, ↓zGd0, ↓zGd1, ↓zGd2, ↓zGd3, ↓zGd4, zGp0, startD, ↓List.map_cons, ↓List.map_nil, ↓List.length_cons, ↓List.length_nil, Nat.reduceAdd, Nat.reduceSub, Nat.sub_self, List.replicate, ↓List.cons_append, ↓List.nil_append, List.append_nil, ↓List.getElem?_cons_zero, ↓List.getElem?_cons_succ, ↓List.set_cons_zero, ↓List.set_cons_succ, wipeD, Bool.not_true, Bool.not_false, decide_true, decide_false, beq_self_eq_true, true_and, and_true, Nat.reduceLeDiff, toDs, toDk, toDs_sh, ↓zS_iss, ↓zS_iis, ↓zS_iii, ↓zS_ibi, ↓zS_isi, ↓zS_iib, ↓zS_ibb, ↓zS_isb, ↓zS_iin, ↓zS_isn, ↓zS_iil, ↓zS_isl, ↓zS_iit, ↓zS_ist, ↓zS_iid, ↓zS_isd]
    show (true = true ∧ true = true) ∧ Q (.bl (inD (.str x) [.str (Str.ofString "turns"), .str (Str.ofString "others"), .str (Str.ofString "rounds"), .str (Str.ofString "suns"), .str (Str.ofString "moons")]))
    refine ⟨⟨rfl, rfl⟩, ?_⟩
    rw [in_read]
    exact hq
  | obj => cases h
  | bag => cases h
  | ktup => cases h
  | _ => exact hq
abbrev rowF (d : D) : List D := [.bl (fI d), .bl (fC d), .bl (fN d), .bl (fB d), .bl (fS d), .bl (fR d)]
theorem found_ok {d : D} {Q : D → Prop} (h : kindOk d = true) (hq : Q (.lst (rowF d))) : S__law_found [d] Q := by
  refine ⟨rfl, ?_⟩
  show t__law_found _ [some (.sh d), none]
  simp only [t__law_found, ↓zHd0, zHp0, ↓zGd0, ↓zGd1, ↓zGd2, ↓zGd3, ↓zGd4, zGp0, startD, ↓List.map_cons, ↓List.map_nil, ↓List.length_cons, ↓List.length_nil, Nat.reduceAdd, Nat.reduceSub, Nat.sub_self, List.replicate, ↓List.cons_append, ↓List.nil_append, List.append_nil, ↓List.getElem?_cons_zero, ↓List.getElem?_cons_succ, ↓List.set_cons_zero, ↓List.set_cons_succ, wipeD, Bool.not_true, Bool.not_false, decide_true, decide_false, beq_self_eq_true, true_and, and_true, Nat.reduceLeDiff, toDs, toDk, toDs_sh, ↓zS_iss, ↓zS_iis, ↓zS_iii, ↓zS_ibi, ↓zS_isi, ↓zS_iib, ↓zS_ibb, ↓zS_isb, ↓zS_iin, ↓zS_isn, ↓zS_iil, ↓zS_isl, ↓zS_iit, ↓zS_ist, ↓zS_iid, ↓zS_isd]
  refine isint_ok h ?_
  refine count_ok h ?_
  refine number_ok h ?_
  refine bits_ok h ?_
  simp only [_law_found_at_2, ↓zHd0, zHp0, ↓zGd0, ↓zGd1, ↓zGd2, ↓zGd3, ↓zGd4, zGp0, startD, ↓List.map_cons, ↓List.map_nil, ↓List.length_cons, ↓List.length_nil, Nat.reduceAdd, Nat.reduceSub, Nat.sub_self, List.replicate, ↓List.cons_append, ↓List.nil_append, List.append_nil, ↓List.getElem?_cons_zero, ↓List.getElem?_cons_succ, ↓List.set_cons_zero, ↓List.set_cons_succ, wipeD, Bool.not_true, Bool.not_false, decide_true, decide_false, beq_self_eq_true, true_and, and_true, Nat.reduceLeDiff, toDs, toDk, toDs_sh, ↓zS_iss, ↓zS_iis, ↓zS_iii, ↓zS_ibi, ↓zS_isi, ↓zS_iib, ↓zS_ibb, ↓zS_isb, ↓zS_iin, ↓zS_isn, ↓zS_iil, ↓zS_isl, ↓zS_iit, ↓zS_ist, ↓zS_iid, ↓zS_isd]
  refine side_ok h ?_
  refine reader_ok h ?_
  exact ⟨by rw [sizeLine_eq]; decide, hq⟩
theorem due_f {d : D} {t : Str} {Q : D → Prop} (ht : t.length ≤ 1000) (hq : Q (.lst [.bl false, .bl false, .bl false, .bl (bitL t), .bl (sideL t), .bl (readL t)])) : _law_due_at_3 { nx := fun _ => Q .non, rt := Q } [some (.sh d), some (.sh (.bl false)), some (.sh (.str t)), none] := by
  simp only [_law_due_at_3, ↓zHd0, zHp0, ↓zGd0, ↓zGd1, ↓zGd2, ↓zGd3, ↓zGd4, zGp0, startD, ↓List.map_cons, ↓List.map_nil, ↓List.length_cons, ↓List.length_nil, Nat.reduceAdd, Nat.reduceSub, Nat.sub_self, List.replicate, ↓List.cons_append, ↓List.nil_append, List.append_nil, ↓List.getElem?_cons_zero, ↓List.getElem?_cons_succ, ↓List.set_cons_zero, ↓List.set_cons_succ, wipeD, Bool.not_true, Bool.not_false, decide_true, decide_false, beq_self_eq_true, true_and, and_true, Nat.reduceLeDiff, toDs, toDk, toDs_sh, ↓zS_iss, ↓zS_iis, ↓zS_iii, ↓zS_ibi, ↓zS_isi, ↓zS_iib, ↓zS_ibb, ↓zS_isb, ↓zS_iin, ↓zS_isn, ↓zS_iil, ↓zS_isl, ↓zS_iit, ↓zS_ist, ↓zS_iid, ↓zS_isd]
  refine ⟨(rep_fits ht).1, (rep_fits ht).2, ?_⟩
  rw [rep_bits]
  simp only [_law_due_at_4, ↓zHd0, zHp0, ↓zGd0, ↓zGd1, ↓zGd2, ↓zGd3, ↓zGd4, zGp0, startD, ↓List.map_cons, ↓List.map_nil, ↓List.length_cons, ↓List.length_nil, Nat.reduceAdd, Nat.reduceSub, Nat.sub_self, List.replicate, ↓List.cons_append, ↓List.nil_append, List.append_nil, ↓List.getElem?_cons_zero, ↓List.getElem?_cons_succ, ↓List.set_cons_zero, ↓List.set_cons_succ, wipeD, Bool.not_true, Bool.not_false, decide_true, decide_false, beq_self_eq_true, true_and, and_true, Nat.reduceLeDiff, toDs, toDk, toDs_sh, ↓zS_iss, ↓zS_iis, ↓zS_iii, ↓zS_ibi, ↓zS_isi, ↓zS_iib, ↓zS_ibb, ↓zS_isb, ↓zS_iin, ↓zS_isn, ↓zS_iil, ↓zS_isl, ↓zS_iit, ↓zS_ist, ↓zS_iid, ↓zS_isd]
  rw [in_side, in_read]
  exact ⟨⟨rfl, rfl⟩, ⟨rfl, rfl⟩, by rw [sizeLine_eq]; decide, hq⟩
theorem due_t {i : Int} {Q : D → Prop} (hq : Q (.lst [.bl true, .bl (decide (0 ≤ i)), .bl (decide (0 < i)), .bl false, .bl false, .bl false])) : _law_due_at_3 { nx := fun _ => Q .non, rt := Q } [some (.sh (.int i)), some (.sh (.bl true)), some (.sh (.str (Str.ofString "-"))), none] := by
  simp only [_law_due_at_3, ↓zHd0, zHp0, ↓zGd0, ↓zGd1, ↓zGd2, ↓zGd3, ↓zGd4, zGp0, startD, ↓List.map_cons, ↓List.map_nil, ↓List.length_cons, ↓List.length_nil, Nat.reduceAdd, Nat.reduceSub, Nat.sub_self, List.replicate, ↓List.cons_append, ↓List.nil_append, List.append_nil, ↓List.getElem?_cons_zero, ↓List.getElem?_cons_succ, ↓List.set_cons_zero, ↓List.set_cons_succ, wipeD, Bool.not_true, Bool.not_false, decide_true, decide_false, beq_self_eq_true, true_and, and_true, Nat.reduceLeDiff, toDs, toDk, toDs_sh, ↓zS_iss, ↓zS_iis, ↓zS_iii, ↓zS_ibi, ↓zS_isi, ↓zS_iib, ↓zS_ibb, ↓zS_isb, ↓zS_iin, ↓zS_isn, ↓zS_iil, ↓zS_isl, ↓zS_iit, ↓zS_ist, ↓zS_iid, ↓zS_isd]
  have hm : (Str.ofString "-").length ≤ 1000 := by decide +kernel
  refine ⟨(rep_fits hm).1, (rep_fits hm).2, ?_⟩
  rw [rep_bits]
  simp only [_law_due_at_4, ↓zHd0, zHp0, ↓zGd0, ↓zGd1, ↓zGd2, ↓zGd3, ↓zGd4, zGp0, startD, ↓List.map_cons, ↓List.map_nil, ↓List.length_cons, ↓List.length_nil, Nat.reduceAdd, Nat.reduceSub, Nat.sub_self, List.replicate, ↓List.cons_append, ↓List.nil_append, List.append_nil, ↓List.getElem?_cons_zero, ↓List.getElem?_cons_succ, ↓List.set_cons_zero, ↓List.set_cons_succ, wipeD, Bool.not_true, Bool.not_false, decide_true, decide_false, beq_self_eq_true, true_and, and_true, Nat.reduceLeDiff, toDs, toDk, toDs_sh, ↓zS_iss, ↓zS_iis, ↓zS_iii, ↓zS_ibi, ↓zS_isi, ↓zS_iib, ↓zS_ibb, ↓zS_isb, ↓zS_iin, ↓zS_isn, ↓zS_iil, ↓zS_isl, ↓zS_iit, ↓zS_ist, ↓zS_iid, ↓zS_isd]
  rw [in_side, in_read, show sideL (Str.ofString "-") = false by decide +kernel, show readL (Str.ofString "-") = false by decide +kernel, show bitL (Str.ofString "-") = false by decide +kernel]
  exact ⟨⟨rfl, rfl⟩, ⟨rfl, rfl⟩, by rw [sizeLine_eq]; decide, hq⟩
theorem due_ok {d : D} {Q : D → Prop} (h : kindOk d = true) (hq : Q (.lst (rowF d))) : S__law_due [d] Q := by
  refine ⟨rfl, ?_⟩
  show t__law_due _ [some (.sh d), none, none, none]
  simp only [t__law_due, ↓zHd0, zHp0, ↓zGd0, ↓zGd1, ↓zGd2, ↓zGd3, ↓zGd4, zGp0, startD, ↓List.map_cons, ↓List.map_nil, ↓List.length_cons, ↓List.length_nil, Nat.reduceAdd, Nat.reduceSub, Nat.sub_self, List.replicate, ↓List.cons_append, ↓List.nil_append, List.append_nil, ↓List.getElem?_cons_zero, ↓List.getElem?_cons_succ, ↓List.set_cons_zero, ↓List.set_cons_succ, wipeD, Bool.not_true, Bool.not_false, decide_true, decide_false, beq_self_eq_true, true_and, and_true, Nat.reduceLeDiff, toDs, toDk, toDs_sh, ↓zS_iss, ↓zS_iis, ↓zS_iii, ↓zS_ibi, ↓zS_isi, ↓zS_iib, ↓zS_ibb, ↓zS_isb, ↓zS_iin, ↓zS_isn, ↓zS_iil, ↓zS_isl, ↓zS_iit, ↓zS_ist, ↓zS_iid, ↓zS_isd]
  have e1 : bitL (Str.ofString "-") = false := by decide +kernel
  have e2 : sideL (Str.ofString "-") = false := by decide +kernel
  have e3 : readL (Str.ofString "-") = false := by decide +kernel
  have hm : (Str.ofString "-").length ≤ 1000 := by decide +kernel
  cases d with
  | str x =>
    simp only [_law_due_at_2, ↓zHd0, zHp0, ↓zGd0, ↓zGd1, ↓zGd2, ↓zGd3, ↓zGd4, zGp0, startD, ↓List.map_cons, ↓List.map_nil, ↓List.length_cons, ↓List.length_nil, Nat.reduceAdd, Nat.reduceSub, Nat.sub_self, List.replicate, ↓List.cons_append, ↓List.nil_append, List.append_nil, ↓List.getElem?_cons_zero, ↓List.getElem?_cons_succ, ↓List.set_cons_zero, ↓List.set_cons_succ, wipeD, Bool.not_true, Bool.not_false, decide_true, decide_false, beq_self_eq_true, true_and, and_true, Nat.reduceLeDiff, toDs, toDk, toDs_sh, ↓zS_iss, ↓zS_iis, ↓zS_iii, ↓zS_ibi, ↓zS_isi, ↓zS_iib, ↓zS_ibb, ↓zS_isb, ↓zS_iin, ↓zS_isn, ↓zS_iil, ↓zS_isl, ↓zS_iit, ↓zS_ist, ↓zS_iid, ↓zS_isd]
    exact due_f (of_decide_eq_true h) hq
  | int i =>
    simp only [_law_due_at_2, ↓zHd0, zHp0, ↓zGd0, ↓zGd1, ↓zGd2, ↓zGd3, ↓zGd4, zGp0, startD, ↓List.map_cons, ↓List.map_nil, ↓List.length_cons, ↓List.length_nil, Nat.reduceAdd, Nat.reduceSub, Nat.sub_self, List.replicate, ↓List.cons_append, ↓List.nil_append, List.append_nil, ↓List.getElem?_cons_zero, ↓List.getElem?_cons_succ, ↓List.set_cons_zero, ↓List.set_cons_succ, wipeD, Bool.not_true, Bool.not_false, decide_true, decide_false, beq_self_eq_true, true_and, and_true, Nat.reduceLeDiff, toDs, toDk, toDs_sh, ↓zS_iss, ↓zS_iis, ↓zS_iii, ↓zS_ibi, ↓zS_isi, ↓zS_iib, ↓zS_ibb, ↓zS_isb, ↓zS_iin, ↓zS_isn, ↓zS_iil, ↓zS_isl, ↓zS_iit, ↓zS_ist, ↓zS_iid, ↓zS_isd]
    exact due_t hq
  | obj => cases h
  | bag => cases h
  | ktup => cases h
  | _ =>
    simp only [_law_due_at_2, ↓zHd0, zHp0, ↓zGd0, ↓zGd1, ↓zGd2, ↓zGd3, ↓zGd4, zGp0, startD, ↓List.map_cons, ↓List.map_nil, ↓List.length_cons, ↓List.length_nil, Nat.reduceAdd, Nat.reduceSub, Nat.sub_self, List.replicate, ↓List.cons_append, ↓List.nil_append, List.append_nil, ↓List.getElem?_cons_zero, ↓List.getElem?_cons_succ, ↓List.set_cons_zero, ↓List.set_cons_succ, wipeD, Bool.not_true, Bool.not_false, decide_true, decide_false, beq_self_eq_true, true_and, and_true, Nat.reduceLeDiff, toDs, toDk, toDs_sh, ↓zS_iss, ↓zS_iis, ↓zS_iii, ↓zS_ibi, ↓zS_isi, ↓zS_iib, ↓zS_ibb, ↓zS_isb, ↓zS_iin, ↓zS_isn, ↓zS_iil, ↓zS_isl, ↓zS_iit, ↓zS_ist, ↓zS_iid, ↓zS_isd]
    refine due_f hm ?_
    rw [e1, e2, e3]
    exact hq
/-! a drawn thing -/
abbrev wds : List String := ["sun", "moon", "turns", "others", "rounds", "suns", "moons", "always", "not", "turn"]
theorem wds_ok : (wds.all fun s => decide ((Str.ofString s).length ≤ 10) && decide ((Txt.upper (Str.ofString s)).length ≤ 100)) = true := by decide +kernel
theorem thing_9 {s : String} {Q : D → Prop} (h1 : (Str.ofString s).length ≤ 10) (h2 : (Txt.upper (Str.ofString s)).length ≤ 100) (hq : ∀ d, kindOk d = true → Q d) {o1 o3 : Option SD} : _law_thing_at_9 { nx := fun _ => Q .non, rt := Q } [some (.sh .bag), o1, some (.sh (.str (Str.ofString s))), o3] := by
  simp only [_law_thing_at_9, ↓zHd0, zHp0, ↓zGd0, ↓zGd1, ↓zGd2, ↓zGd3, ↓zGd4, zGp0, startD, ↓List.map_cons, ↓List.map_nil, ↓List.length_cons, ↓List.length_nil, Nat.reduceAdd, Nat.reduceSub, Nat.sub_self, List.replicate, ↓List.cons_append, ↓List.nil_append, List.append_nil, ↓List.getElem?_cons_zero, ↓List.getElem?_cons_succ, ↓List.set_cons_zero, ↓List.set_cons_succ, wipeD, Bool.not_true, Bool.not_false, decide_true, decide_false, beq_self_eq_true, true_and, and_true, Nat.reduceLeDiff, toDs, toDk, toDs_sh, ↓zS_iss, ↓zS_iis, ↓zS_iii, ↓zS_ibi, ↓zS_isi, ↓zS_iib, ↓zS_ibb, ↓zS_isb, ↓zS_iin, ↓zS_isn, ↓zS_iil, ↓zS_isl, ↓zS_iit, ↓zS_ist, ↓zS_iid, ↓zS_isd]
  have e1 : (Str.ofString "s").length = 1 := by decide +kernel
  have e2 : (Str.ofString " ").length = 1 := by decide +kernel
  refine ⟨by rw [e1, sizeLine_eq]; omega, by rw [sizeLine_eq]; omega, by omega, by rw [e2, sizeLine_eq]; omega, ⟨by decide, by decide +kernel⟩, fun a a0 a1 => ?_⟩
  refine pick_at a0 (by exact a1) fun d hd => hq d ?_
  have k : ∀ x : Str, x.length ≤ 1000 → kindOk (.str x) = true := fun x h => decide_eq_true h
  simp only [List.mem_cons, List.not_mem_nil, or_false] at hd
  rcases hd with rfl | rfl | rfl | rfl | rfl | rfl
  · exact k _ (by omega)
  · exact k _ (by rw [strLen_append, e1]; omega)
  · refine k _ ?_
    show (cut (Str.ofString s).cps.toList (some 1) none).toArray.size ≤ 1000
    have : (cut (Str.ofString s).cps.toList (some 1) none).length ≤ (Str.ofString s).cps.toList.length := by
      unfold DL.cut
      rw [List.length_take, List.length_drop]
      omega
    rw [List.size_toArray]
    have : (Str.ofString s).cps.toList.length = (Str.ofString s).length := by simp [Str.length]
    omega
  · exact k _ (by omega)
  · exact k _ (by rw [strLen_append, e2]; omega)
  · exact k _ (by omega)
theorem pick_str {x : Str} {a : Int} {Q : D → Prop} (a0 : 0 ≤ a) (a1 : a < x.length) (hx : x.length ≤ sizeLine) (h : ∀ c ∈ x.cps.toList, Q (sg c)) : oIx (.str x) (.int a) Q := by
  show x.length ≤ sizeLine ∧ (match atI x.cps.toList a with | some c => Q (.str ⟨#[c]⟩) | none => False)
  refine ⟨hx, ?_⟩
  obtain ⟨k, rfl⟩ : ∃ k : Nat, a = k := ⟨a.toNat, by omega⟩
  have hl : x.cps.toList.length = x.length := by simp [Str.length]
  have hk : k < x.cps.toList.length := by omega
  have e : atI x.cps.toList (k : Int) = some x.cps.toList[k] := atI_q (by omega) (by rw [Int.toNat_natCast]; exact List.getElem?_eq_getElem hk)
  rw [e]
  exact h _ (List.getElem_mem hk)
theorem sgs_any : ∀ {ys : List D}, (∀ y ∈ ys, ∃ c, y = sg c) → ∃ cs : List Nat, ys = cs.map sg
  | [], _ => ⟨[], rfl⟩
  | y :: ys, h => by
    obtain ⟨c, rfl⟩ := h y List.mem_cons_self
    obtain ⟨cs, rfl⟩ := sgs_any fun z hz => h z (List.mem_cons_of_mem _ hz)
    exact ⟨c :: cs, rfl⟩
theorem thing_ok {Q : D → Prop} (hq : ∀ d, kindOk d = true → Q d) : S__law_thing [.bag] Q := by
  refine ⟨rfl, ?_⟩
  show t__law_thing _ [some (.sh .bag), none, none, none]
  simp only [t__law_thing, ↓zHd0, zHp0, ↓zGd0, ↓zGd1, ↓zGd2, ↓zGd3, ↓zGd4, zGp0, startD, ↓List.map_cons, ↓List.map_nil, ↓List.length_cons, ↓List.length_nil, Nat.reduceAdd, Nat.reduceSub, Nat.sub_self, List.replicate, ↓List.cons_append, ↓List.nil_append, List.append_nil, ↓List.getElem?_cons_zero, ↓List.getElem?_cons_succ, ↓List.set_cons_zero, ↓List.set_cons_succ, wipeD, Bool.not_true, Bool.not_false, decide_true, decide_false, beq_self_eq_true, true_and, and_true, Nat.reduceLeDiff, toDs, toDk, toDs_sh, ↓zS_iss, ↓zS_iis, ↓zS_iii, ↓zS_ibi, ↓zS_isi, ↓zS_iib, ↓zS_ibb, ↓zS_isb, ↓zS_iin, ↓zS_isn, ↓zS_iil, ↓zS_isl, ↓zS_iit, ↓zS_ist, ↓zS_iid, ↓zS_isd]
  refine ⟨⟨by decide, by decide +kernel⟩, fun a a0 a1 => ?_⟩
  simp only [_law_thing_at_2, ↓zHd0, zHp0, ↓zGd0, ↓zGd1, ↓zGd2, ↓zGd3, ↓zGd4, zGp0, startD, ↓List.map_cons, ↓List.map_nil, ↓List.length_cons, ↓List.length_nil, Nat.reduceAdd, Nat.reduceSub, Nat.sub_self, List.replicate, ↓List.cons_append, ↓List.nil_append, List.append_nil, ↓List.getElem?_cons_zero, ↓List.getElem?_cons_succ, ↓List.set_cons_zero, ↓List.set_cons_succ, wipeD, Bool.not_true, Bool.not_false, decide_true, decide_false, beq_self_eq_true, true_and, and_true, Nat.reduceLeDiff, toDs, toDk, toDs_sh, ↓zS_iss, ↓zS_iis, ↓zS_iii, ↓zS_ibi, ↓zS_isi, ↓zS_iib, ↓zS_ibb, ↓zS_isb, ↓zS_iin, ↓zS_isn, ↓zS_iil, ↓zS_isl, ↓zS_iit, ↓zS_ist, ↓zS_iid, ↓zS_isd]
  by_cases h0 : a = 0
  · rw [iteS_pos h0]
    simp only [↓zHd0, zHp0, ↓zGd0, ↓zGd1, ↓zGd2, ↓zGd3, ↓zGd4, zGp0, startD, ↓List.map_cons, ↓List.map_nil, ↓List.length_cons, ↓List.length_nil, Nat.reduceAdd, Nat.reduceSub, Nat.sub_self, List.replicate, ↓List.cons_append, ↓List.nil_append, List.append_nil, ↓List.getElem?_cons_zero, ↓List.getElem?_cons_succ, ↓List.set_cons_zero, ↓List.set_cons_succ, wipeD, Bool.not_true, Bool.not_false, decide_true, decide_false, beq_self_eq_true, true_and, and_true, Nat.reduceLeDiff, toDs, toDk, toDs_sh, ↓zS_iss, ↓zS_iis, ↓zS_iii, ↓zS_ibi, ↓zS_isi, ↓zS_iib, ↓zS_ibb, ↓zS_isb, ↓zS_iin, ↓zS_isn, ↓zS_iil, ↓zS_isl, ↓zS_iit, ↓zS_ist, ↓zS_iid, ↓zS_isd]
    exact odd_ok (by decide +kernel) hq
  rw [iteS_neg h0]
  simp only [_law_thing_at_4, ↓zHd0, zHp0, ↓zGd0, ↓zGd1, ↓zGd2, ↓zGd3, ↓zGd4, zGp0, startD, ↓List.map_cons, ↓List.map_nil, ↓List.length_cons, ↓List.length_nil, Nat.reduceAdd, Nat.reduceSub, Nat.sub_self, List.replicate, ↓List.cons_append, ↓List.nil_append, List.append_nil, ↓List.getElem?_cons_zero, ↓List.getElem?_cons_succ, ↓List.set_cons_zero, ↓List.set_cons_succ, wipeD, Bool.not_true, Bool.not_false, decide_true, decide_false, beq_self_eq_true, true_and, and_true, Nat.reduceLeDiff, toDs, toDk, toDs_sh, ↓zS_iss, ↓zS_iis, ↓zS_iii, ↓zS_ibi, ↓zS_isi, ↓zS_iib, ↓zS_ibb, ↓zS_isb, ↓zS_iin, ↓zS_isn, ↓zS_iil, ↓zS_isl, ↓zS_iit, ↓zS_ist, ↓zS_iid, ↓zS_isd]
  by_cases h1 : a = 1
  · rw [iteS_pos h1]
    simp only [↓zHd0, zHp0, ↓zGd0, ↓zGd1, ↓zGd2, ↓zGd3, ↓zGd4, zGp0, startD, ↓List.map_cons, ↓List.map_nil, ↓List.length_cons, ↓List.length_nil, Nat.reduceAdd, Nat.reduceSub, Nat.sub_self, List.replicate, ↓List.cons_append, ↓List.nil_append, List.append_nil, ↓List.getElem?_cons_zero, ↓List.getElem?_cons_succ, ↓List.set_cons_zero, ↓List.set_cons_succ, wipeD, Bool.not_true, Bool.not_false, decide_true, decide_false, beq_self_eq_true, true_and, and_true, Nat.reduceLeDiff, toDs, toDk, toDs_sh, ↓zS_iss, ↓zS_iis, ↓zS_iii, ↓zS_ibi, ↓zS_isi, ↓zS_iib, ↓zS_ibb, ↓zS_isb, ↓zS_iin, ↓zS_isn, ↓zS_iil, ↓zS_isl, ↓zS_iit, ↓zS_ist, ↓zS_iid, ↓zS_isd]
    refine ⟨⟨by decide, by decide +kernel⟩, fun u u0 u1 => ?_⟩
    simp only [↓zHd0, zHp0, ↓zGd0, ↓zGd1, ↓zGd2, ↓zGd3, ↓zGd4, zGp0, startD, ↓List.map_cons, ↓List.map_nil, ↓List.length_cons, ↓List.length_nil, Nat.reduceAdd, Nat.reduceSub, Nat.sub_self, List.replicate, ↓List.cons_append, ↓List.nil_append, List.append_nil, ↓List.getElem?_cons_zero, ↓List.getElem?_cons_succ, ↓List.set_cons_zero, ↓List.set_cons_succ, wipeD, Bool.not_true, Bool.not_false, decide_true, decide_false, beq_self_eq_true, true_and, and_true, Nat.reduceLeDiff, toDs, toDk, toDs_sh, ↓zS_iss, ↓zS_iis, ↓zS_iii, ↓zS_ibi, ↓zS_isi, ↓zS_iib, ↓zS_ibb, ↓zS_isb, ↓zS_iin, ↓zS_isn, ↓zS_iil, ↓zS_isl, ↓zS_iit, ↓zS_ist, ↓zS_iid, ↓zS_isd]
    have e8 : (Str.ofString "0101 2a\n").length = 8 := by decide +kernel
    refine ⟨⟨by omega, by omega⟩, by rw [ups_len, sizeLine_eq]; omega, ?_⟩
    refine lc_any (fun d => ∃ c, d = sg c) _ _ (fun d _ R hR => ?_) fun ys hl hy => ?_
    · simp only [↓zHd0, zHp0, ↓zGd0, ↓zGd1, ↓zGd2, ↓zGd3, ↓zGd4, zGp0, startD, ↓List.map_cons, ↓List.map_nil, ↓List.length_cons, ↓List.length_nil, Nat.reduceAdd, Nat.reduceSub, Nat.sub_self, List.replicate, ↓List.cons_append, ↓List.nil_append, List.append_nil, ↓List.getElem?_cons_zero, ↓List.getElem?_cons_succ, ↓List.set_cons_zero, ↓List.set_cons_succ, wipeD, Bool.not_true, Bool.not_false, decide_true, decide_false, beq_self_eq_true, true_and, and_true, Nat.reduceLeDiff, toDs, toDk, toDs_sh, ↓zS_iss, ↓zS_iis, ↓zS_iii, ↓zS_ibi, ↓zS_isi, ↓zS_iib, ↓zS_ibb, ↓zS_isb, ↓zS_iin, ↓zS_isn, ↓zS_iil, ↓zS_isl, ↓zS_iit, ↓zS_ist, ↓zS_iid, ↓zS_isd]
      refine ⟨⟨by decide, by decide +kernel⟩, fun b b0 b1 => ?_⟩
      exact pick_str b0 (by rw [e8]; exact b1) (by rw [e8, sizeLine_eq]; decide) fun c _ => hR _ ⟨c, rfl⟩
    · obtain ⟨cs, rfl⟩ := sgs_any hy
      rw [ups_len, List.length_map] at hl
      rw [List.nil_append]
      show (match strsOf _ with | some ys => _ | none => False)
      rw [strs_signs]
      refine ⟨join_sz (by omega), ?_⟩
      rw [join_signs]
      exact hq _ (decide_eq_true (by rw [codes_len]; omega))
  rw [iteS_neg h1]
  simp only [_law_thing_at_6, ↓zHd0, zHp0, ↓zGd0, ↓zGd1, ↓zGd2, ↓zGd3, ↓zGd4, zGp0, startD, ↓List.map_cons, ↓List.map_nil, ↓List.length_cons, ↓List.length_nil, Nat.reduceAdd, Nat.reduceSub, Nat.sub_self, List.replicate, ↓List.cons_append, ↓List.nil_append, List.append_nil, ↓List.getElem?_cons_zero, ↓List.getElem?_cons_succ, ↓List.set_cons_zero, ↓List.set_cons_succ, wipeD, Bool.not_true, Bool.not_false, decide_true, decide_false, beq_self_eq_true, true_and, and_true, Nat.reduceLeDiff, toDs, toDk, toDs_sh, ↓zS_iss, ↓zS_iis, ↓zS_iii, ↓zS_ibi, ↓zS_isi, ↓zS_iib, ↓zS_ibb, ↓zS_isb, ↓zS_iin, ↓zS_isn, ↓zS_iil, ↓zS_isl, ↓zS_iit, ↓zS_ist, ↓zS_iid, ↓zS_isd]
  by_cases h2 : a = 2
  · rw [iteS_pos h2]
    simp only [↓zHd0, zHp0, ↓zGd0, ↓zGd1, ↓zGd2, ↓zGd3, ↓zGd4, zGp0, startD, ↓List.map_cons, ↓List.map_nil, ↓List.length_cons, ↓List.length_nil, Nat.reduceAdd, Nat.reduceSub, Nat.sub_self, List.replicate, ↓List.cons_append, ↓List.nil_append, List.append_nil, ↓List.getElem?_cons_zero, ↓List.getElem?_cons_succ, ↓List.set_cons_zero, ↓List.set_cons_succ, wipeD, Bool.not_true, Bool.not_false, decide_true, decide_false, beq_self_eq_true, true_and, and_true, Nat.reduceLeDiff, toDs, toDk, toDs_sh, ↓zS_iss, ↓zS_iis, ↓zS_iii, ↓zS_ibi, ↓zS_isi, ↓zS_iib, ↓zS_ibb, ↓zS_isb, ↓zS_iin, ↓zS_isn, ↓zS_iil, ↓zS_isl, ↓zS_iit, ↓zS_ist, ↓zS_iid, ↓zS_isd]
    refine ⟨⟨by decide, by decide +kernel⟩, fun v v0 v1 => ?_⟩
    have e1 : (Str.ofString "1").length = 1 := by decide +kernel
    have e0 : (Str.ofString "0").length = 1 := by decide +kernel
    have hv : v.toNat < 61 := by omega
    have e2 := ten_len v.toNat
    rw [strLen_append] at e2
    simp only [↓zHd0, zHp0, ↓zGd0, ↓zGd1, ↓zGd2, ↓zGd3, ↓zGd4, zGp0, startD, ↓List.map_cons, ↓List.map_nil, ↓List.length_cons, ↓List.length_nil, Nat.reduceAdd, Nat.reduceSub, Nat.sub_self, List.replicate, ↓List.cons_append, ↓List.nil_append, List.append_nil, ↓List.getElem?_cons_zero, ↓List.getElem?_cons_succ, ↓List.set_cons_zero, ↓List.set_cons_succ, wipeD, Bool.not_true, Bool.not_false, decide_true, decide_false, beq_self_eq_true, true_and, and_true, Nat.reduceLeDiff, toDs, toDk, toDs_sh, ↓zS_iss, ↓zS_iis, ↓zS_iii, ↓zS_ibi, ↓zS_isi, ↓zS_iib, ↓zS_ibb, ↓zS_isb, ↓zS_iin, ↓zS_isn, ↓zS_iil, ↓zS_isl, ↓zS_iit, ↓zS_ist, ↓zS_iid, ↓zS_isd]
    refine ⟨⟨v0, by omega, by rw [e0]; decide⟩, by rw [e2, sizeLine_eq]; omega, ?_⟩
    show (match intText? (Str.ofString "1" ++ repS (Str.ofString "0") v.toNat) with | some i => _ | none => False)
    rw [ten_pow _ hv]
    refine ⟨by rw [ten_len]; omega, ?_⟩
    generalize ((10 ^ v.toNat : Nat) : Int) = w
    refine ⟨⟨by decide, by decide +kernel⟩, fun b b0 b1 => ?_⟩
    simp only [↓zHd0, zHp0, ↓zGd0, ↓zGd1, ↓zGd2, ↓zGd3, ↓zGd4, zGp0, startD, ↓List.map_cons, ↓List.map_nil, ↓List.length_cons, ↓List.length_nil, Nat.reduceAdd, Nat.reduceSub, Nat.sub_self, List.replicate, ↓List.cons_append, ↓List.nil_append, List.append_nil, ↓List.getElem?_cons_zero, ↓List.getElem?_cons_succ, ↓List.set_cons_zero, ↓List.set_cons_succ, wipeD, Bool.not_true, Bool.not_false, decide_true, decide_false, beq_self_eq_true, true_and, and_true, Nat.reduceLeDiff, toDs, toDk, toDs_sh, ↓zS_iss, ↓zS_iis, ↓zS_iii, ↓zS_ibi, ↓zS_isi, ↓zS_iib, ↓zS_ibb, ↓zS_isb, ↓zS_iin, ↓zS_isn, ↓zS_iil, ↓zS_isl, ↓zS_iit, ↓zS_ist, ↓zS_iid, ↓zS_isd]
    refine ⟨⟨by decide, by decide +kernel⟩, fun c c0 c1 => ?_⟩
    simp only [↓zHd0, zHp0, ↓zGd0, ↓zGd1, ↓zGd2, ↓zGd3, ↓zGd4, zGp0, startD, ↓List.map_cons, ↓List.map_nil, ↓List.length_cons, ↓List.length_nil, Nat.reduceAdd, Nat.reduceSub, Nat.sub_self, List.replicate, ↓List.cons_append, ↓List.nil_append, List.append_nil, ↓List.getElem?_cons_zero, ↓List.getElem?_cons_succ, ↓List.set_cons_zero, ↓List.set_cons_succ, wipeD, Bool.not_true, Bool.not_false, decide_true, decide_false, beq_self_eq_true, true_and, and_true, Nat.reduceLeDiff, toDs, toDk, toDs_sh, ↓zS_iss, ↓zS_iis, ↓zS_iii, ↓zS_ibi, ↓zS_isi, ↓zS_iib, ↓zS_ibb, ↓zS_isb, ↓zS_iin, ↓zS_isn, ↓zS_iil, ↓zS_isl, ↓zS_iit, ↓zS_ist, ↓zS_iid, ↓zS_isd]
    exact ⟨.inl (.inl ⟨by omega, by omega⟩), .inl (.inr ⟨by omega, by omega⟩), hq _ rfl⟩
  rw [iteS_neg h2]
  simp only [_law_thing_at_8, S__law_pick, t__law_pick, ↓zHd0, zHp0, ↓zGd0, ↓zGd1, ↓zGd2, ↓zGd3, ↓zGd4, zGp0, startD, ↓List.map_cons, ↓List.map_nil, ↓List.length_cons, ↓List.length_nil, Nat.reduceAdd, Nat.reduceSub, Nat.sub_self, List.replicate, ↓List.cons_append, ↓List.nil_append, List.append_nil, ↓List.getElem?_cons_zero, ↓List.getElem?_cons_succ, ↓List.set_cons_zero, ↓List.set_cons_succ, wipeD, Bool.not_true, Bool.not_false, decide_true, decide_false, beq_self_eq_true, true_and, and_true, Nat.reduceLeDiff, toDs, toDk, toDs_sh, ↓zS_iss, ↓zS_iis, ↓zS_iii, ↓zS_ibi, ↓zS_isi, ↓zS_iib, ↓zS_ibb, ↓zS_isb, ↓zS_iin, ↓zS_isn, ↓zS_iil, ↓zS_isl, ↓zS_iit, ↓zS_ist, ↓zS_iid, ↓zS_isd]
  refine ⟨⟨by decide, by decide +kernel⟩, fun b b0 b1 => ?_⟩
  refine pick_at b0 (by exact b1) fun d hd => ?_
  have hd : d ∈ wds.map fun s => D.str (Str.ofString s) := hd
  obtain ⟨s, hs, rfl⟩ := List.mem_map.mp hd
  have := List.all_eq_true.mp wds_ok s hs
  rw [Bool.and_eq_true, decide_eq_true_eq, decide_eq_true_eq] at this
  exact thing_9 this.1 this.2 hq

theorem row_alike {d : D} {Q : D → Prop} (hq : Q (.bl true)) : S__law_alike [.lst (rowF d), .lst (rowF d)] Q := ⟨⟨rfl, by rfl, by show _ ≤ 16000000; rw [D.wt, wtL, wtL, wtL, wtL, wtL, wtL, wtL, D.wt, D.wt, D.wt, D.wt, D.wt, D.wt]; omega⟩, hq⟩
section
variable {W : DEnds}
abbrev Sa (o2 o3 o4 : Option SD) : DS := [none, some (.sh .bag), o2, o3, o4]
theorem law_1 {d : D} {o2 o4 : Option SD} (h : kindOk d = true) (hN : W.nx (Sa o2 (some (.sh d)) o4)) : b_law_1 W (Sa o2 (some (.sh d)) o4) := by
  simp only [b_law_1, ↓zHd0, zHp0, ↓zGd0, ↓zGd1, ↓zGd2, ↓zGd3, ↓zGd4, zGp0, startD, ↓List.map_cons, ↓List.map_nil, ↓List.length_cons, ↓List.length_nil, Nat.reduceAdd, Nat.reduceSub, Nat.sub_self, List.replicate, ↓List.cons_append, ↓List.nil_append, List.append_nil, ↓List.getElem?_cons_zero, ↓List.getElem?_cons_succ, ↓List.set_cons_zero, ↓List.set_cons_succ, wipeD, Bool.not_true, Bool.not_false, decide_true, decide_false, beq_self_eq_true, true_and, and_true, Nat.reduceLeDiff, toDs, toDk, toDs_sh, ↓zS_iss, ↓zS_iis, ↓zS_iii, ↓zS_ibi, ↓zS_isi, ↓zS_iib, ↓zS_ibb, ↓zS_isb, ↓zS_iin, ↓zS_isn, ↓zS_iil, ↓zS_isl, ↓zS_iit, ↓zS_ist, ↓zS_iid, ↓zS_isd]
  refine found_ok h ?_
  refine due_ok h ?_
  refine row_alike ?_
  simp only [↓zHd0, zHp0, ↓zGd0, ↓zGd1, ↓zGd2, ↓zGd3, ↓zGd4, zGp0, startD, ↓List.map_cons, ↓List.map_nil, ↓List.length_cons, ↓List.length_nil, Nat.reduceAdd, Nat.reduceSub, Nat.sub_self, List.replicate, ↓List.cons_append, ↓List.nil_append, List.append_nil, ↓List.getElem?_cons_zero, ↓List.getElem?_cons_succ, ↓List.set_cons_zero, ↓List.set_cons_succ, wipeD, Bool.not_true, Bool.not_false, decide_true, decide_false, beq_self_eq_true, true_and, and_true, Nat.reduceLeDiff, toDs, toDk, toDs_sh, ↓zS_iss, ↓zS_iis, ↓zS_iii, ↓zS_ibi, ↓zS_isi, ↓zS_iib, ↓zS_ibb, ↓zS_isb, ↓zS_iin, ↓zS_isn, ↓zS_iil, ↓zS_isl, ↓zS_iit, ↓zS_ist, ↓zS_iid, ↓zS_isd]
  exact hN
theorem law_1a {d : D} {o2 : Option SD} (h : kindOk d = true) (hN : ∀ o4, W.nx (Sa o2 (some (.sh d)) o4)) : ∀ (n : Nat) (k : Int) (o4 : Option SD), forD (gN 4) b_law_1 W (ups k n) (Sa o2 (some (.sh d)) o4)
  | 0, _, _ => hN _
  | n + 1, k, o4 => by
    have ih := fun o4 => law_1a h hN n (k + 1) o4
    rw [ups_succ, forD_c]
    generalize forD (gN 4) b_law_1 W (ups (k + 1) n) = Z at ih ⊢
    simp only [↓zHd0, zHp0, ↓zGd0, ↓zGd1, ↓zGd2, ↓zGd3, ↓zGd4, zGp0, startD, ↓List.map_cons, ↓List.map_nil, ↓List.length_cons, ↓List.length_nil, Nat.reduceAdd, Nat.reduceSub, Nat.sub_self, List.replicate, ↓List.cons_append, ↓List.nil_append, List.append_nil, ↓List.getElem?_cons_zero, ↓List.getElem?_cons_succ, ↓List.set_cons_zero, ↓List.set_cons_succ, wipeD, Bool.not_true, Bool.not_false, decide_true, decide_false, beq_self_eq_true, true_and, and_true, Nat.reduceLeDiff, toDs, toDk, toDs_sh, ↓zS_iss, ↓zS_iis, ↓zS_iii, ↓zS_ibi, ↓zS_isi, ↓zS_iib, ↓zS_ibb, ↓zS_isb, ↓zS_iin, ↓zS_isn, ↓zS_iil, ↓zS_isl, ↓zS_iit, ↓zS_ist, ↓zS_iid, ↓zS_isd]
    exact law_1 h (ih _)
theorem six_f : (List.replicate 6 [D.bl false]).flatten = rowF (.lst []) := by rfl
theorem law_2 {o2 o3 o4 : Option SD} (hN : ∀ o2 o3 o4, W.nx (Sa o2 o3 o4)) : b_law_2 W (Sa o2 o3 o4) := by
  simp only [b_law_2, ↓zHd0, zHp0, ↓zGd0, ↓zGd1, ↓zGd2, ↓zGd3, ↓zGd4, zGp0, startD, ↓List.map_cons, ↓List.map_nil, ↓List.length_cons, ↓List.length_nil, Nat.reduceAdd, Nat.reduceSub, Nat.sub_self, List.replicate, ↓List.cons_append, ↓List.nil_append, List.append_nil, ↓List.getElem?_cons_zero, ↓List.getElem?_cons_succ, ↓List.set_cons_zero, ↓List.set_cons_succ, wipeD, Bool.not_true, Bool.not_false, decide_true, decide_false, beq_self_eq_true, true_and, and_true, Nat.reduceLeDiff, toDs, toDk, toDs_sh, ↓zS_iss, ↓zS_iis, ↓zS_iii, ↓zS_ibi, ↓zS_isi, ↓zS_iib, ↓zS_ibb, ↓zS_isb, ↓zS_iin, ↓zS_isn, ↓zS_iil, ↓zS_isl, ↓zS_iit, ↓zS_ist, ↓zS_iid, ↓zS_isd]
  refine thing_ok fun d h => ?_
  simp only [law_at_4, ↓zHd0, zHp0, ↓zGd0, ↓zGd1, ↓zGd2, ↓zGd3, ↓zGd4, zGp0, startD, ↓List.map_cons, ↓List.map_nil, ↓List.length_cons, ↓List.length_nil, Nat.reduceAdd, Nat.reduceSub, Nat.sub_self, List.replicate, ↓List.cons_append, ↓List.nil_append, List.append_nil, ↓List.getElem?_cons_zero, ↓List.getElem?_cons_succ, ↓List.set_cons_zero, ↓List.set_cons_succ, wipeD, Bool.not_true, Bool.not_false, decide_true, decide_false, beq_self_eq_true, true_and, and_true, Nat.reduceLeDiff, toDs, toDk, toDs_sh, ↓zS_iss, ↓zS_iis, ↓zS_iii, ↓zS_ibi, ↓zS_isi, ↓zS_iib, ↓zS_ibb, ↓zS_isb, ↓zS_iin, ↓zS_isn, ↓zS_iil, ↓zS_isl, ↓zS_iit, ↓zS_ist, ↓zS_iid, ↓zS_isd]
  refine ⟨⟨by omega, by omega⟩, ?_⟩
  refine law_1a h (fun o4 => ?_) _ _ _
  simp only [law_at_7, ↓zHd0, zHp0, ↓zGd0, ↓zGd1, ↓zGd2, ↓zGd3, ↓zGd4, zGp0, startD, ↓List.map_cons, ↓List.map_nil, ↓List.length_cons, ↓List.length_nil, Nat.reduceAdd, Nat.reduceSub, Nat.sub_self, List.replicate, ↓List.cons_append, ↓List.nil_append, List.append_nil, ↓List.getElem?_cons_zero, ↓List.getElem?_cons_succ, ↓List.set_cons_zero, ↓List.set_cons_succ, wipeD, Bool.not_true, Bool.not_false, decide_true, decide_false, beq_self_eq_true, true_and, and_true, Nat.reduceLeDiff, toDs, toDk, toDs_sh, ↓zS_iss, ↓zS_iis, ↓zS_iii, ↓zS_ibi, ↓zS_isi, ↓zS_iib, ↓zS_ibb, ↓zS_isb, ↓zS_iin, ↓zS_isn, ↓zS_iil, ↓zS_isl, ↓zS_iit, ↓zS_ist, ↓zS_iid, ↓zS_isd]
  refine found_ok rfl ?_
  refine ⟨⟨by omega, by omega, by rw [sizeLine_eq]; decide⟩, ?_⟩
  rw [show (List.replicate (Int.toNat 6) [D.bl false]).flatten = rowF (.lst [d]) from rfl]
  refine row_alike ?_
  simp only [↓zHd0, zHp0, ↓zGd0, ↓zGd1, ↓zGd2, ↓zGd3, ↓zGd4, zGp0, startD, ↓List.map_cons, ↓List.map_nil, ↓List.length_cons, ↓List.length_nil, Nat.reduceAdd, Nat.reduceSub, Nat.sub_self, List.replicate, ↓List.cons_append, ↓List.nil_append, List.append_nil, ↓List.getElem?_cons_zero, ↓List.getElem?_cons_succ, ↓List.set_cons_zero, ↓List.set_cons_succ, wipeD, Bool.not_true, Bool.not_false, decide_true, decide_false, beq_self_eq_true, true_and, and_true, Nat.reduceLeDiff, toDs, toDk, toDs_sh, ↓zS_iss, ↓zS_iis, ↓zS_iii, ↓zS_ibi, ↓zS_isi, ↓zS_iib, ↓zS_ibb, ↓zS_isb, ↓zS_iin, ↓zS_isn, ↓zS_iil, ↓zS_isl, ↓zS_iit, ↓zS_ist, ↓zS_iid, ↓zS_isd]
  refine found_ok rfl ?_
  refine ⟨⟨by omega, by omega, by rw [sizeLine_eq]; decide⟩, ?_⟩
  rw [show (List.replicate (Int.toNat 6) [D.bl false]).flatten = rowF (.tup [d]) from rfl]
  refine row_alike ?_
  simp only [↓zHd0, zHp0, ↓zGd0, ↓zGd1, ↓zGd2, ↓zGd3, ↓zGd4, zGp0, startD, ↓List.map_cons, ↓List.map_nil, ↓List.length_cons, ↓List.length_nil, Nat.reduceAdd, Nat.reduceSub, Nat.sub_self, List.replicate, ↓List.cons_append, ↓List.nil_append, List.append_nil, ↓List.getElem?_cons_zero, ↓List.getElem?_cons_succ, ↓List.set_cons_zero, ↓List.set_cons_succ, wipeD, Bool.not_true, Bool.not_false, decide_true, decide_false, beq_self_eq_true, true_and, and_true, Nat.reduceLeDiff, toDs, toDk, toDs_sh, ↓zS_iss, ↓zS_iis, ↓zS_iii, ↓zS_ibi, ↓zS_isi, ↓zS_iib, ↓zS_ibb, ↓zS_isb, ↓zS_iin, ↓zS_isn, ↓zS_iil, ↓zS_isl, ↓zS_iit, ↓zS_ist, ↓zS_iid, ↓zS_isd]
  exact hN _ _ _
theorem law_out (hn : ∀ o2 o3 o4, W.nx (Sa o2 o3 o4)) : ∀ (n : Nat) (k : Int) (o2 o3 o4 : Option SD), forD (gN 2) b_law_2 W (ups k n) (Sa o2 o3 o4)
  | 0, _, _, _, _ => hn _ _ _
  | n + 1, k, _, _, _ => by
    rw [ups_succ]
    exact law_2 fun _ _ _ => law_out hn n (k + 1) _ _ _
end
theorem vc_law : t_law { nx := fun _ => False, rt := fun d => d = .bl true } [none, some (.sh .bag), none, none, none] := by
  simp only [t_law, ↓zHd0, zHp0, ↓zGd0, ↓zGd1, ↓zGd2, ↓zGd3, ↓zGd4, zGp0, startD, ↓List.map_cons, ↓List.map_nil, ↓List.length_cons, ↓List.length_nil, Nat.reduceAdd, Nat.reduceSub, Nat.sub_self, List.replicate, ↓List.cons_append, ↓List.nil_append, List.append_nil, ↓List.getElem?_cons_zero, ↓List.getElem?_cons_succ, ↓List.set_cons_zero, ↓List.set_cons_succ, wipeD, Bool.not_true, Bool.not_false, decide_true, decide_false, beq_self_eq_true, true_and, and_true, Nat.reduceLeDiff, toDs, toDk, toDs_sh, ↓zS_iss, ↓zS_iis, ↓zS_iii, ↓zS_ibi, ↓zS_isi, ↓zS_iib, ↓zS_ibb, ↓zS_isb, ↓zS_iin, ↓zS_isn, ↓zS_iil, ↓zS_isl, ↓zS_iit, ↓zS_ist, ↓zS_iid, ↓zS_isd]
  refine ⟨⟨by omega, by omega⟩, ?_⟩
  refine law_out (fun _ _ _ => ?_) _ _ _ _ _
  simp only [law_at_9, ↓zHd0, zHp0, ↓zGd0, ↓zGd1, ↓zGd2, ↓zGd3, ↓zGd4, zGp0, startD, ↓List.map_cons, ↓List.map_nil, ↓List.length_cons, ↓List.length_nil, Nat.reduceAdd, Nat.reduceSub, Nat.sub_self, List.replicate, ↓List.cons_append, ↓List.nil_append, List.append_nil, ↓List.getElem?_cons_zero, ↓List.getElem?_cons_succ, ↓List.set_cons_zero, ↓List.set_cons_succ, wipeD, Bool.not_true, Bool.not_false, decide_true, decide_false, beq_self_eq_true, true_and, and_true, Nat.reduceLeDiff, toDs, toDk, toDs_sh, ↓zS_iss, ↓zS_iis, ↓zS_iii, ↓zS_ibi, ↓zS_isi, ↓zS_iib, ↓zS_ibb, ↓zS_isb, ↓zS_iin, ↓zS_isn, ↓zS_iil, ↓zS_isl, ↓zS_iit, ↓zS_ist, ↓zS_iid, ↓zS_isd]

def spLaw (K : PySem.W.Frag) : Sp := fun vs H P _ => ∃ (a : Addr) (ns : List Int), vs = [.ref a] ∧ SqL K H a (ns.map V.int) ∧ ns.length ≤ 63 ∧ ∀ H', P (.bl true) H'
theorem pss_ex {α : Type} {X : Cx} {sts : List Stmt} {f : α → TS} (h : ∀ b, PSs X sts (f b)) : PSs X sts (fun D σ H => ∃ b, f b D σ H) := ⟨fun pins s σ H D I ⟨b, q⟩ => (h b).run pins s σ H D I q⟩
theorem d_law {P : Program} {w : World} {K : PySem.W.Frag} {mg : Str → Option Value} {base : Heap} {B : Bx} (T : Top K mg B.ct) {cdv : Value} {A : Around} {outer : List Env} {s : Shared} {H : Hp} {E : XK} (hgd : A.guards = some []) (hr : Room 3 (A.deeper (envOfC "law" (defScope s_law) s.heap.objs.size T.f_law.f cdv))) :
    PSsD (cxOf CX0 P w K mg base ["_law_script", "_law_bag_here", "_law_turn", "_law_thing_here", "_law_again"] "law" (defScope s_law) T.f_law.f cdv A outer s H E).nox B ((defBody s_law).drop 1) t_law := by
  have hgd : (cxOf CX0 P w K mg base ["_law_script", "_law_bag_here", "_law_turn", "_law_thing_here", "_law_again"] "law" (defScope s_law) T.f_law.f cdv A outer s H E).nox.A.guards = some [] := hgd
  refine psd_cons ?_ ?_
  · refine psd_for PassesOwn.never rfl (pid_r1 (by rfl) T.n_range (pad_cons pd_int pad_nil)) (pgd_name (i := 2) sc_law.nd rfl (by first | exact .inl rfl | exact .inr rfl)) ?_
    refine psd_cons ?_ ?_
    · refine (psd_set (i := 3) sc_law.nd rfl (by first | exact .inl rfl | exact .inr rfl) (pd_callD T.f__law_thing (ok__law_thing T) hr (by decide) (by rfl) (pad_cons (pd_var 1) pad_nil)))
    refine psd_cons ?_ ?_
    · refine psd_for PassesOwn.never rfl (pid_r1 (by rfl) T.n_range (pad_cons pd_int pad_nil)) (pgd_name (i := 4) sc_law.nd rfl (by first | exact .inl rfl | exact .inr rfl)) ?_
      refine psd_one ?_
      refine psd_if (ptd_not (ptd_val (pd_callDG T.f__law_alike (ok__law_alike T) hgd hr (by decide) (by rfl) (pad_cons (pd_callD T.f__law_found (ok__law_found T) hr (by decide) (by rfl) (pad_cons (pd_var 3) pad_nil)) (pad_cons (pd_callD T.f__law_due (ok__law_due T) hr (by decide) (by rfl) (pad_cons (pd_var 3) pad_nil)) pad_nil))))) ?_ ?_
      · refine psd_one ?_
        refine (psd_ret pd_bl)
      · exact psd_nil
    refine psd_one ?_
    refine psd_if (pwd_or (ptd_not (ptd_val (pd_callDG T.f__law_alike (ok__law_alike T) hgd hr (by decide) (by rfl) (pad_cons (pd_callD T.f__law_found (ok__law_found T) hr (by decide) (by rfl) (pad_cons (pd_f (pf_lst (pad_cons (pd_var 3) pad_nil))) pad_nil)) (pad_cons (pd_bin op_mul_d (pd_f (pf_lst (pad_cons pd_bl pad_nil))) pd_int) pad_nil))))) (pwd_or1 (ptd_not (ptd_val (pd_callDG T.f__law_alike (ok__law_alike T) hgd hr (by decide) (by rfl) (pad_cons (pd_callD T.f__law_found (ok__law_found T) hr (by decide) (by rfl) (pad_cons (pd_tup (pad_cons (pd_var 3) pad_nil)) pad_nil)) (pad_cons (pd_bin op_mul_d (pd_f (pf_lst (pad_cons pd_bl pad_nil))) pd_int) pad_nil))))))).pt ?_ ?_
    · refine psd_one ?_
      refine (psd_ret pd_bl)
    · exact psd_nil
  refine psd_one ?_
  refine (psd_ret pd_bl)

theorem ok_law {P : Program} {w : World} {K : PySem.W.Frag} {mg : Str → Option Value} {base : Heap} {ct : Nat → Addr} (T : Top K mg ct) : FnG P w K mg base CX0 4 T.f_law.f T.f_law.fd ["_law_script"] (spLaw K) := by
  refine fng_of (k := 3) T.f_law.fn sc_law (fun vs H Q E h => ?_) (fun cdv A outer s H vs Q E hgd hr h => ?_)
  · obtain ⟨a, ns, rfl, _⟩ := h
    rfl
  obtain ⟨a, ns, rfl, hS, hl, q⟩ := h
  have rest : ∀ b : Addr × Addr, PSsD (cxOf CX0 P w K mg base ["_law_script", "_law_bag_here", "_law_turn", "_law_thing_here", "_law_again"] "law" (defScope s_law) T.f_law.f cdv A outer s H E).nox ⟨b.1, b.2, ct⟩ ((defBody s_law).drop 1) t_law := fun b => d_law (B := ⟨b.1, b.2, ct⟩) T hgd hr
  refine ⟨_, PSs.nox (pss_cons (ps_set (i := 1) sc_law.nd rfl (by first | exact .inl rfl | exact .inr rfl) (pe_call (ok__law_bag T) (hr.mono (by decide)) (by rfl) T.f__law_bag.at_ T.f__law_bag.fn.kp T.f__law_bag.bd .nil pass0 (pa_cons (pv 0) pa_nil))) (pss_ex rest)), ?_⟩
  refine ⟨.ref a, rfl, a, ns, rfl, hS, hl, fun b L H2 hb hL ne ex h1 h2 => ?_⟩
  let G : Hp := upd (fun _ => none) L (.lst ((ns.map absI).map V.int))
  have exG : Ex G H2 := fun x o hx => by
    by_cases e : x = L
    · subst e
      have hx : upd (fun _ => none) x (.lst ((ns.map absI).map V.int)) x = some o := hx
      rw [upd_same] at hx
      cases hx
      exact h2
    · have hx : upd (fun _ => none) L (.lst ((ns.map absI).map V.int)) x = some o := hx
      rw [upd_ne e] at hx
      cases hx
  have gb : G b = none := by
    show upd (fun _ => none) L _ b = none
    rw [upd_ne (Ne.symm ne)]
  have jn : Jn K ⟨b, L, ct⟩ G H2 := by
    refine ⟨exG, gb, 0, 1234567891, 0, ns.map absI, h1, sq_of upd_same, by decide, by decide, by decide, by decide, fun n hn => ?_, by rw [List.length_map]; exact hl⟩
    obtain ⟨m, _, rfl⟩ := List.mem_map.mp hn
    unfold absI
    split <;> omega
  refine ⟨(b, L), G, H2, G, [none, some (.sh .bag), none, none, none], { nx := fun _ => False, rt := fun d => d = .bl true }, Gr.refl jn, ?_, vc_law, ⟨fun _ _ _ _ z => z.elim, fun _ _ _ _ z => z.elim, fun _ _ _ _ z => z.elim, fun d v G3 H3 z _ _ hd => ?_, fun _ _ _ _ _ z => z.elim⟩⟩
  · have s0 := start_ok (K := K) (B := ⟨b, L, ct⟩) (H0 := H2) (G := G) (H := H2) (N := ["_law_script", "_law_bag_here", "_law_turn", "_law_thing_here", "_law_again"]) (vs := []) (ds := []) .nil
    exact (s0.forget (i := 0) (o := some (.ref a))).set (i := 1) (v := .ref b) (d := .bag) .bag
  · have z : d = .bl true := z
    subst z
    cases hd
    exact q _


theorem fin {l : PySem.W.OpenLaw} {w : World} {K : PySem.W.Frag} {h : Heap} {mg : Str → Option Value} {fa : Addr} (X : K.In h) (G : h.Ns mainGlobals mg) (hfa : mg "law" = some (.ref fa))
    (d_are_bits : Nonempty (DefAt K mg "are_bits" s_are_bits ["thing"]))
    (d_is_integer : Nonempty (DefAt K mg "is_integer" s_is_integer ["thing"]))
    (d_is_count : Nonempty (DefAt K mg "is_count" s_is_count ["thing"]))
    (d_is_number : Nonempty (DefAt K mg "is_number" s_is_number ["thing"]))
    (d_is_reader : Nonempty (DefAt K mg "is_reader" s_is_reader ["thing"]))
    (d_is_side : Nonempty (DefAt K mg "is_side" s_is_side ["thing"]))
    (d__law_alike : Nonempty (DefAt K mg "_law_alike" s__law_alike ["_law_found_here", "_law_due_here"]))
    (d__law_bag : Nonempty (DefAt K mg "_law_bag" s__law_bag ["_law_script"]))
    (d__law_due : Nonempty (DefAt K mg "_law_due" s__law_due ["_law_thing_here"]))
    (d__law_found : Nonempty (DefAt K mg "_law_found" s__law_found ["_law_thing_here"]))
    (d__law_take : Nonempty (DefAt K mg "_law_take" s__law_take ["_law_bag_here", "_law_many"]))
    (d__law_odd : Nonempty (DefAt K mg "_law_odd" s__law_odd ["_law_bag_here", "_law_name"]))
    (d__law_pick : Nonempty (DefAt K mg "_law_pick" s__law_pick ["_law_bag_here", "_law_things"]))
    (d__law_thing : Nonempty (DefAt K mg "_law_thing" s__law_thing ["_law_bag_here"]))
    (d_law : ∃ t : DefAt K mg "law" s_law ["_law_script"], ∀ (s : Shared) (v : Value), BindsTo s t.fd ⟨[v], []⟩ [("_law_script", v)])
    (n_abs : PySem.W.nsIn K mainGlobals "abs" = some none)
    (n_all : PySem.W.nsIn K mainGlobals "all" = some none)
    (n_bool : PySem.W.nsIn K mainGlobals "bool" = some none)
    (n_int : PySem.W.nsIn K mainGlobals "int" = some none)
    (n_isinstance : PySem.W.nsIn K mainGlobals "isinstance" = some none)
    (n_len : PySem.W.nsIn K mainGlobals "len" = some none)
    (n_range : PySem.W.nsIn K mainGlobals "range" = some none)
    (n_repr : PySem.W.nsIn K mainGlobals "repr" = some none)
    (n_str : PySem.W.nsIn K mainGlobals "str" = some none)
    (k_SIDES : ∃ p : Addr, mg "SIDES" = some (.ref p) ∧ ∀ B G, Dat K B G (.ref p) c_SIDES)
    (k_READERS : ∃ p : Addr, mg "READERS" = some (.ref p) ∧ ∀ B G, Dat K B G (.ref p) c_READERS)
    : ∃ fd : FuncData, (∀ (s : Shared) (v : Value), BindsTo s fd ⟨[v], []⟩ [("_law_script", v)]) ∧ ∀ base : Heap, K.In base → base.Ns mainGlobals mg → FnG l.prog w K mg base CX0 4 fa fd ["_law_script"] (spLaw K) := by
  obtain ⟨t_are_bits⟩ := d_are_bits
  obtain ⟨t_is_integer⟩ := d_is_integer
  obtain ⟨t_is_count⟩ := d_is_count
  obtain ⟨t_is_number⟩ := d_is_number
  obtain ⟨t_is_reader⟩ := d_is_reader
  obtain ⟨t_is_side⟩ := d_is_side
  obtain ⟨t__law_alike⟩ := d__law_alike
  obtain ⟨t__law_bag⟩ := d__law_bag
  obtain ⟨t__law_due⟩ := d__law_due
  obtain ⟨t__law_found⟩ := d__law_found
  obtain ⟨t__law_take⟩ := d__law_take
  obtain ⟨t__law_odd⟩ := d__law_odd
  obtain ⟨t__law_pick⟩ := d__law_pick
  obtain ⟨t__law_thing⟩ := d__law_thing
  obtain ⟨t_law, hb⟩ := d_law
  obtain ⟨va_SIDES, vg_SIDES, vd_SIDES⟩ := k_SIDES
  obtain ⟨va_READERS, vg_READERS, vd_READERS⟩ := k_READERS
  have e := hfa.symm.trans t_law.at_
  have e : fa = t_law.f := by injection e with e; injection e
  subst e
  exact ⟨t_law.fd, hb, fun base _ _ => ok_law (ct := fun n => match n with | _ => 0) { f_are_bits := t_are_bits, f_is_integer := t_is_integer, f_is_count := t_is_count, f_is_number := t_is_number, f_is_reader := t_is_reader, f_is_side := t_is_side, f__law_alike := t__law_alike, f__law_bag := t__law_bag, f__law_due := t__law_due, f__law_found := t__law_found, f__law_take := t__law_take, f__law_odd := t__law_odd, f__law_pick := t__law_pick, f__law_thing := t__law_thing, f_law := t_law, n_abs := (PySem.W.mg_none_of X G n_abs), n_all := (PySem.W.mg_none_of X G n_all), n_bool := (PySem.W.mg_none_of X G n_bool), n_int := (PySem.W.mg_none_of X G n_int), n_isinstance := (PySem.W.mg_none_of X G n_isinstance), n_len := (PySem.W.mg_none_of X G n_len), n_range := (PySem.W.mg_none_of X G n_range), n_repr := (PySem.W.mg_none_of X G n_repr), n_str := (PySem.W.mg_none_of X G n_str), a_SIDES := va_SIDES, g_SIDES := vg_SIDES, d_SIDES := vd_SIDES, a_READERS := va_READERS, g_READERS := vg_READERS, d_READERS := vd_READERS }⟩
end My
open PySem PySem.W PyProof.Rows in
set_option maxRecDepth 100000 in
set_option maxHeartbeats 0 in
theorem PySem.Challenge.cw_poleribbons_k11_kinds_known_holds : PySem.Challenge.rw_poleribbons_k11_kinds_known.Holds := by
  w_on; o_law; k_head; (case hw => w_witness2)
  k_fill
  refine DL.walk_g (l := PySem.Challenge.rw_poleribbons_k11_kinds_known) (n := 63) (k := 4) (x := "_law_script") (sp := fun w => My.spLaw _) rfl (by decide) rfl ⟨rfl, by decide, by decide⟩ (fun w h Y => PySem.W.kIn_of Y) ?F (fun _ _ a ns hl _ hS => ⟨a, ns, rfl, hS, hl, fun _ => rfl⟩)
  case F =>
    intro w mg fa h KX G hmg
    replace hmg : mg "law" = some (.ref fa) := hmg
    refine' My.fin KX G hmg ?d_are_bits ?d_is_integer ?d_is_count ?d_is_number ?d_is_reader ?d_is_side ?d__law_alike ?d__law_bag ?d__law_due ?d__law_found ?d__law_take ?d__law_odd ?d__law_pick ?d__law_thing ?d_law ?n_abs ?n_all ?n_bool ?n_int ?n_isinstance ?n_len ?n_range ?n_repr ?n_str ?k_SIDES ?k_READERS
    case d_are_bits =>
      refine' DL.ex_def KX G (fun _ _ _ _ _ _ us hl => match us, hl with | [_], _ => rfl) ?a ?l ?c ?k
      (case a => k_is); (case l => k_is); (case c => k_is); (case k => k_is)
    case d_is_integer =>
      refine' DL.ex_def KX G (fun _ _ _ _ _ _ us hl => match us, hl with | [_], _ => rfl) ?a ?l ?c ?k
      (case a => k_is); (case l => k_is); (case c => k_is); (case k => k_is)
    case d_is_count =>
      refine' DL.ex_def KX G (fun _ _ _ _ _ _ us hl => match us, hl with | [_], _ => rfl) ?a ?l ?c ?k
      (case a => k_is); (case l => k_is); (case c => k_is); (case k => k_is)
    case d_is_number =>
      refine' DL.ex_def KX G (fun _ _ _ _ _ _ us hl => match us, hl with | [_], _ => rfl) ?a ?l ?c ?k
      (case a => k_is); (case l => k_is); (case c => k_is); (case k => k_is)
    case d_is_reader =>
      refine' DL.ex_def KX G (fun _ _ _ _ _ _ us hl => match us, hl with | [_], _ => rfl) ?a ?l ?c ?k
      (case a => k_is); (case l => k_is); (case c => k_is); (case k => k_is)
    case d_is_side =>
      refine' DL.ex_def KX G (fun _ _ _ _ _ _ us hl => match us, hl with | [_], _ => rfl) ?a ?l ?c ?k
      (case a => k_is); (case l => k_is); (case c => k_is); (case k => k_is)
    case d__law_alike =>
      refine' DL.ex_def KX G (fun _ _ _ _ _ _ us hl => match us, hl with | [_, _], _ => rfl) ?a ?l ?c ?k
      (case a => k_is); (case l => k_is); (case c => k_is); (case k => k_is)
    case d__law_bag =>
      refine' DL.ex_def KX G (fun _ _ _ _ _ _ us hl => match us, hl with | [_], _ => rfl) ?a ?l ?c ?k
      (case a => k_is); (case l => k_is); (case c => k_is); (case k => k_is)
    case d__law_due =>
      refine' DL.ex_def KX G (fun _ _ _ _ _ _ us hl => match us, hl with | [_], _ => rfl) ?a ?l ?c ?k
      (case a => k_is); (case l => k_is); (case c => k_is); (case k => k_is)
    case d__law_found =>
      refine' DL.ex_def KX G (fun _ _ _ _ _ _ us hl => match us, hl with | [_], _ => rfl) ?a ?l ?c ?k
      (case a => k_is); (case l => k_is); (case c => k_is); (case k => k_is)
    case d__law_take =>
      refine' DL.ex_def KX G (fun _ _ _ _ _ _ us hl => match us, hl with | [_, _], _ => rfl) ?a ?l ?c ?k
      (case a => k_is); (case l => k_is); (case c => k_is); (case k => k_is)
    case d__law_odd =>
      refine' DL.ex_def KX G (fun _ _ _ _ _ _ us hl => match us, hl with | [_, _], _ => rfl) ?a ?l ?c ?k
      (case a => k_is); (case l => k_is); (case c => k_is); (case k => k_is)
    case d__law_pick =>
      refine' DL.ex_def KX G (fun _ _ _ _ _ _ us hl => match us, hl with | [_, _], _ => rfl) ?a ?l ?c ?k
      (case a => k_is); (case l => k_is); (case c => k_is); (case k => k_is)
    case d__law_thing =>
      refine' DL.ex_def KX G (fun _ _ _ _ _ _ us hl => match us, hl with | [_], _ => rfl) ?a ?l ?c ?k
      (case a => k_is); (case l => k_is); (case c => k_is); (case k => k_is)
    case d_law =>
      refine' DL.ex_law KX G (fun _ _ _ _ _ _ us hl => match us, hl with | [_], _ => rfl) ?a ?l ?c ?k
      (case a => k_is); (case l => k_is); (case c => k_is); (case k => k_is)
    case n_abs =>
      k_is
    case n_all =>
      k_is
    case n_bool =>
      k_is
    case n_int =>
      k_is
    case n_isinstance =>
      k_is
    case n_len =>
      k_is
    case n_range =>
      k_is
    case n_repr =>
      k_is
    case n_str =>
      k_is
    case k_SIDES =>
      refine' DL.ex_tupS KX G ?a ?l ?c ?d ?z ?v
      (case a => k_is); (case l => k_is); (case c => rfl); (case d => rfl); (case z => decide); (case v => rfl)
    case k_READERS =>
      refine' DL.ex_tupS KX G ?a ?l ?c ?d ?z ?v
      (case a => k_is); (case l => k_is); (case c => rfl); (case d => rfl); (case z => decide); (case v => rfl)
