import PyProof.Rows.All
import Wide.All
import OpenK.AllK
import Wide.FinOn
import HandS.ForMost
import HandS.Wide
import HandS.Lambda
import KE.KDictKeyed
import KE.KeyNested
import HandS.TupAny
import HandS.IsInst
import KE.KDictItemsList
import KE.KDictZip
import KE.SortData
import KE.SortKeyHeap
import HandS.SortKw
import HandS.Deep
import HandS.Zip
import KE.GoesZip
import KE.GoesMore
import HandS.More
import HandS.Conv
import HandS.HeadWalk
import KE.KNestM
import HandS.Dict
import HandS.Iter
import HandS.NamedTupGet
import HandS.Style
import KE.DataMinKey
import KE.DataCmp
import PySem.Challenge.RW_packedseats_k76_whole_uniform_quotas
set_option Elab.async false
set_option linter.all false
set_option maxRecDepth 100000
set_option maxHeartbeats 4000000
/-! PD, part 1: plain data D under values; cells that may change; worlds; what a reading at the level of data is, lifted to the hand layer's readings. -/
namespace PD
open PySem PySem.Spec PyProof.Rows L2

abbrev Frag := PySem.W.Frag
/-- what the globals stand for, and the world (texts' hashes) -/
abbrev TbL := List (Addr × Str)
structure MG where
  f : Str → Option Value
  wo : World
  /-- the tables of code objects, with the name that their code objects bear -/
  tb : TbL
instance : CoeFun MG fun _ => Str → Option Value := ⟨MG.f⟩
abbrev _root_.L2.Cx.mgx (X : Cx) (Θ : TbL) : MG := ⟨X.mg, X.w, Θ⟩
/-- what may be changed: no code object, no table -/
def MutD : Option HO → Prop
  | some (.lst _) => True
  | some (.dK _) => True
  | some (.dT _) => True
  | some (.ins _ _ _) => True
  | some (.ext φ) => ∀ c q, HO.ext φ ≠ LamX.CodeO c q
  | _ => False
theorem MutD.mut {o : Option HO} (h : MutD o) : Mut o := by
  cases o with
  | none => exact h.elim
  | some o => cases o <;> first | exact True.intro | exact h.elim
theorem code_not_mut {c : Addr} {q : Str} (h : MutD (some (LamX.CodeO c q))) : False := by
  unfold LamX.CodeO at h
  exact h c q rfl

/-- plain data: what a value stands for; cell k: an object that may change, the k-th of the world -/
inductive D where
  | non
  | bl (b : Bool)
  | int (i : Int)
  | str (s : Str)
  | lst (xs : List D)
  | tup (xs : List D)
  | scr (xs : List Int)
  | obj (c : Str) (fs : List (Str × D))
  | cell (k : Nat)
  | ty (n : String)
  | fn (x : Str)
  /-- anything -/
  | opq

/-- what a cell holds -/
inductive Ce where
  | lst (ds : List D)
  | obj (c : Str) (fs : List (Str × D))
  | dic (kvs : List (D × D))
  /-- a dict whose keys are numbers and texts -/
  | dki (kvs : List (Key × D))

abbrev Cs := List (Option Ce)
/-- al: the cells' addresses; ce: what they hold (none: no cell any more); hid: objects under work, out of sight -/
structure Wd where
  al : List Addr
  ce : Cs
  hid : List (Addr × HO)
  H : Hp

def Wd.live (w : Wd) (a : Addr) : Prop := (∃ (k : Nat) (c : Ce), w.ce[k]? = some (some c) ∧ w.al[k]? = some a) ∨ ∃ o, (a, o) ∈ w.hid

/-- the script: read, never written -/
def ScrAt (K : Frag) (H : Hp) (a : Addr) (ns : List Int) : Prop :=
  (∃ o, H a = some (.frz o (.lst (ns.map V.int)))) ∨
    ∃ (o : Obj) (its : Array Value) (n : Nat), K.lookup a = some o ∧ o.cls = .type "list" ∧ o.dict = none ∧ o.data = .seq its n ∧ its.size ≤ sizeLine ∧ Vals (ns.map V.int) its.toList
theorem ScrAt.sqL {K : Frag} {H : Hp} {a : Addr} {ns : List Int} (h : ScrAt K H a ns) : SqL K H a (ns.map V.int) := by
  rcases h with ⟨o, h⟩ | h
  · exact .inl (.inr ⟨o, h⟩)
  · exact .inr h
theorem ScrAt.of {K : Frag} {H : Hp} {a : Addr} {ns : List Int} (h : SqL K H a (ns.map V.int)) (o : Only H) : ScrAt K H a ns := by
  rcases h with (h | h) | h
  · rcases o a with e | ⟨o, xs, e⟩ <;> (rw [e] at h; cases h)
  · exact .inl h
  · exact .inr h
mutual
inductive Rp (K : Frag) (mg : MG) (w : Wd) : V → D → Prop
  | non : Rp K mg w .non .non
  | bl (b : Bool) : Rp K mg w (.bl b) (.bl b)
  | int (i : Int) : Rp K mg w (.int i) (.int i)
  | str (x : Str) : Rp K mg w (.str x) (.str x)
  | lst {a : Addr} {xs : List V} {ds : List D} : w.H a = some (.lst xs) → ¬ w.live a → Rps K mg w xs ds → Rp K mg w (.ref a) (.lst ds)
  | tup {a : Addr} {xs : List V} {ds : List D} : SqT K w.H a xs → Rps K mg w xs ds → Rp K mg w (.ref a) (.tup ds)
  | scr {a : Addr} {ns : List Int} : (ScrAt K w.H a ns ∨ (w.H a = some (.lst (ns.map V.int)) ∧ ¬ w.live a)) → Rp K mg w (.ref a) (.scr ns)
  | obj {a Ca dx : Addr} {c : Str} {fs : List (Str × V)} {ds : List (Str × D)} : mg c = some (.ref Ca) → w.H a = some (.ins Ca dx fs) → ¬ w.live a → Rpf K mg w fs ds → Rp K mg w (.ref a) (.obj c ds)
  | cell {a : Addr} {k : Nat} : w.al[k]? = some a → Rp K mg w (.ref a) (.cell k)
  | ty (n : String) : Rp K mg w (.ty n) (.ty n)
  | fn {a : Addr} {x : Str} : mg x = some (.ref a) → Rp K mg w (.ref a) (.fn x)
  | opq {v : V} : v ≠ .non → Rp K mg w v .opq
inductive Rps (K : Frag) (mg : MG) (w : Wd) : List V → List D → Prop
  | nil : Rps K mg w [] []
  | cons {v : V} {vs : List V} {d : D} {ds : List D} : Rp K mg w v d → Rps K mg w vs ds → Rps K mg w (v :: vs) (d :: ds)
inductive Rpf (K : Frag) (mg : MG) (w : Wd) : List (Str × V) → List (Str × D) → Prop
  | nil : Rpf K mg w [] []
  | cons {x : Str} {v : V} {vs : List (Str × V)} {d : D} {ds : List (Str × D)} : Rp K mg w v d → Rpf K mg w vs ds → Rpf K mg w ((x, v) :: vs) ((x, d) :: ds)
end

mutual
/-- the key that a tuple of numbers, texts, None and tuples is -/
def nkOf : D → Option NestedKey
  | .non => some .none
  | .int i => some (.num i)
  | .str x => some (.text x)
  | .tup ds => (nkOfs ds).map .tup
  | _ => none
def nkOfs : List D → Option (List NestedKey)
  | [] => some []
  | d :: ds => (nkOf d).bind fun k => (nkOfs ds).map (k :: ·)
end
/-- a dict whose keys are tuples, at any depth -/
def DicO (wo : World) (a : Addr) (xs : List (NestedKey × Addr × Value)) : HO := .ext fun h => (a == sysModules) = false ∧ ∃ o es ep, h.get? a = some o ∧ o.ExactDict ∧ o.data = .dict es ep ∧
  es.toList = xs.map (fun x => (⟨x.1.hash wo, .ref x.2.1, x.2.2⟩ : DictEntry)) ∧ (xs.map (·.1)).Nodup
inductive CR (K : Frag) (mg : MG) (w : Wd) (a : Addr) : Ce → Prop
  | lst {xs : List V} {ds : List D} : w.H a = some (.lst xs) → Rps K mg w xs ds → CR K mg w a (.lst ds)
  | obj {c : Str} {Ca dx : Addr} {fs : List (Str × V)} {ds : List (Str × D)} : mg c = some (.ref Ca) → w.H a = some (.ins Ca dx fs) → Rpf K mg w fs ds → CR K mg w a (.obj c ds)
  | dic {xs : List (NestedKey × Addr × Value)} {vs : List V} {kvs : List (D × D)} : w.H a = some (DicO mg.wo a xs) → kvs.map (fun p => nkOf p.1) = xs.map (fun x => some x.1) → (∀ x ∈ xs, x.1.depth ≤ 8 ∧ ∃ ks, x.1 = .tup ks) →
      Rps K mg w (xs.map fun x => V.ref x.2.1) (kvs.map (·.1)) → Vals vs (xs.map (·.2.2)) → Rps K mg w vs (kvs.map (·.2)) → CR K mg w a (.dic kvs)
  | dki {xs : List (Key × V)} {kvs : List (Key × D)} : w.H a = some (.dK xs) → xs.map (·.1) = kvs.map (·.1) → Rps K mg w (xs.map (·.2)) (kvs.map (·.2)) → CR K mg w a (.dki kvs)

structure WOk (K : Frag) (mg : MG) (w : Wd) : Prop where
  len : w.al.length = w.ce.length
  at_ : ∀ (k : Nat) (c : Ce), w.ce[k]? = some (some c) → ∃ a, w.al[k]? = some a ∧ CR K mg w a c
  inj : ∀ (j k : Nat) (a : Addr) (c c' : Ce), w.ce[j]? = some (some c) → w.ce[k]? = some (some c') → w.al[j]? = some a → w.al[k]? = some a → j = k
  hidH : ∀ a o, (a, o) ∈ w.hid → w.H a = some o ∧ MutD (some o)
  hidC : ∀ a o, (a, o) ∈ w.hid → ∀ (k : Nat) (c : Ce), w.ce[k]? = some (some c) → w.al[k]? ≠ some a
  hidN : (w.hid.map (·.1)).Nodup
  tab : LamX.Tabs mg.tb w.H

/-- what stands for ever -/
structure Gr (w w' : Wd) : Prop where
  al : ∃ t, w'.al = w.al ++ t
  im : ∀ a o, w.H a = some o → (∀ ps, o ≠ .tbl ps) → ¬ w.live a → w'.H a = some o ∧ ¬ w'.live a
  tp : ∀ a xs, w.H a = some (.tup xs) → w'.H a = some (.tup xs)
  fz : ∀ a o u, w.H a = some (.frz o u) → w'.H a = some (.frz o u)

theorem Gr.refl (w : Wd) : Gr w w := ⟨⟨[], by simp⟩, fun _ _ h _ n => ⟨h, n⟩, fun _ _ h => h, fun _ _ _ h => h⟩
theorem Gr.trans {w w1 w2 : Wd} (a : Gr w w1) (b : Gr w1 w2) : Gr w w2 := by
  refine ⟨?_, fun x o h z n => ?_, fun x xs h => b.tp x xs (a.tp x xs h), fun x o u h => b.fz x o u (a.fz x o u h)⟩
  · obtain ⟨t, e⟩ := a.al
    obtain ⟨t', e'⟩ := b.al
    exact ⟨t ++ t', by rw [e', e, List.append_assoc]⟩
  · obtain ⟨h1, n1⟩ := a.im x o h z n
    exact b.im x o h1 z n1

theorem Gr.sqT {K : Frag} {w w' : Wd} (g : Gr w w') {a : Addr} {xs : List V} (h : SqT K w.H a xs) : SqT K w'.H a xs := by
  rcases h with (h | ⟨o, h⟩) | h
  · exact .inl (.inl (g.tp _ _ h))
  · exact .inl (.inr ⟨o, g.fz _ _ _ h⟩)
  · exact .inr h
theorem Gr.scr {K : Frag} {w w' : Wd} (g : Gr w w') {a : Addr} {ns : List Int} (h : ScrAt K w.H a ns) : ScrAt K w'.H a ns := by
  rcases h with ⟨o, h⟩ | h
  · exact .inl ⟨o, g.fz _ _ _ h⟩
  · exact .inr h

section
variable {K : Frag} {mg : MG} {w w' : Wd}
mutual
theorem Rp.mono (g : Gr w w') : ∀ {d : D} {v : V}, Rp K mg w v d → Rp K mg w' v d
  | .non, _, h => by cases h; exact .non
  | .bl b, _, h => by cases h; exact .bl b
  | .int i, _, h => by cases h; exact .int i
  | .str x, _, h => by cases h; exact .str x
  | .ty x, _, h => by cases h; exact .ty x
  | .fn x, _, h => by
    cases h with
    | fn e => exact .fn e
  | .opq, _, h => by
    cases h with
    | opq e => exact .opq e
  | .lst ds, _, h => by
    cases h with
    | lst h1 h2 h3 =>
      obtain ⟨q1, q2⟩ := g.im _ _ h1 (fun _ z => nomatch z) h2
      exact .lst q1 q2 (Rps.mono g h3)
  | .tup ds, _, h => by
    cases h with
    | tup h1 h3 => exact .tup (g.sqT h1) (Rps.mono g h3)
  | .scr ns, _, h => by
    cases h with
    | scr h1 =>
      rcases h1 with h1 | ⟨h1, h2⟩
      · exact .scr (.inl (g.scr h1))
      · exact .scr (.inr (g.im _ _ h1 (fun _ z => nomatch z) h2))
  | .obj c fs, _, h => by
    cases h with
    | obj h0 h1 h2 h3 =>
      obtain ⟨q1, q2⟩ := g.im _ _ h1 (fun _ z => nomatch z) h2
      exact .obj h0 q1 q2 (Rpf.mono g h3)
  | .cell k, _, h => by
    cases h with
    | cell h1 =>
      obtain ⟨t, e⟩ := g.al
      refine .cell ?_
      rw [e, List.getElem?_append_left (List.getElem?_eq_some_iff.mp h1).1]
      exact h1
theorem Rps.mono (g : Gr w w') : ∀ {ds : List D} {vs : List V}, Rps K mg w vs ds → Rps K mg w' vs ds
  | [], _, h => by cases h; exact .nil
  | d :: ds, _, h => by
    cases h with
    | cons h1 h2 => exact .cons (Rp.mono g h1) (Rps.mono g h2)
theorem Rpf.mono (g : Gr w w') : ∀ {ds : List (Str × D)} {vs : List (Str × V)}, Rpf K mg w vs ds → Rpf K mg w' vs ds
  | [], _, h => by cases h; exact .nil
  | (x, d) :: ds, _, h => by
    cases h with
    | cons h1 h2 => exact .cons (Rp.mono g h1) (Rpf.mono g h2)
end
theorem Rps.length : ∀ {ds : List D} {vs : List V}, Rps K mg w vs ds → vs.length = ds.length
  | [], _, h => by cases h; rfl
  | d :: ds, _, h => by
    cases h with
    | cons h1 h2 => rw [List.length_cons, List.length_cons, Rps.length h2]
theorem Rps.get : ∀ {ds : List D} {vs : List V} {i : Nat} {d : D}, Rps K mg w vs ds → ds[i]? = some d → ∃ v, vs[i]? = some v ∧ Rp K mg w v d
  | [], _, _, _, h, e => by cases h; simp at e
  | d :: ds, _, 0, _, h, e => by
    cases h with
    | cons h1 h2 =>
      simp at e
      subst e
      exact ⟨_, rfl, h1⟩
  | d :: ds, _, i + 1, _, h, e => by
    cases h with
    | cons h1 h2 =>
      obtain ⟨v, q1, q2⟩ := Rps.get (i := i) h2 (by simpa using e)
      exact ⟨v, by simpa using q1, q2⟩
theorem Rps.append : ∀ {ds es : List D} {vs us : List V}, Rps K mg w vs ds → Rps K mg w us es → Rps K mg w (vs ++ us) (ds ++ es)
  | [], _, _, _, h, h' => by cases h; exact h'
  | d :: ds, _, _, _, h, h' => by
    cases h with
    | cons h1 h2 => exact .cons h1 (Rps.append h2 h')
theorem Rps.take : ∀ (n : Nat) {ds : List D} {vs : List V}, Rps K mg w vs ds → Rps K mg w (vs.take n) (ds.take n)
  | 0, _, _, _ => by simp; exact .nil
  | n + 1, [], _, h => by cases h; exact .nil
  | n + 1, d :: ds, _, h => by
    cases h with
    | cons h1 h2 => exact .cons h1 (Rps.take n h2)
theorem Rps.drop : ∀ (n : Nat) {ds : List D} {vs : List V}, Rps K mg w vs ds → Rps K mg w (vs.drop n) (ds.drop n)
  | 0, _, _, h => by simpa using h
  | n + 1, [], _, h => by cases h; exact .nil
  | n + 1, d :: ds, _, h => by
    cases h with
    | cons h1 h2 => exact Rps.drop n h2
theorem Rps.set {d : D} {v : V} (r : Rp K mg w v d) : ∀ (i : Nat) {ds : List D} {vs : List V}, Rps K mg w vs ds → Rps K mg w (vs.set i v) (ds.set i d)
  | _, [], _, h => by cases h; exact .nil
  | 0, _ :: _, _, h => by
    cases h with
    | cons h1 h2 => exact .cons r h2
  | i + 1, _ :: _, _, h => by
    cases h with
    | cons h1 h2 => exact .cons h1 (Rps.set r i h2)
theorem Rps.rep {ds : List D} {vs : List V} (h : Rps K mg w vs ds) : ∀ k : Nat, Rps K mg w (List.replicate k vs).flatten (List.replicate k ds).flatten
  | 0 => .nil
  | k + 1 => by
    rw [List.replicate_succ, List.replicate_succ, List.flatten_cons, List.flatten_cons]
    exact h.append (h.rep k)
theorem Rps.ints : ∀ (ns : List Int), Rps K mg w (ns.map V.int) (ns.map D.int)
  | [] => .nil
  | n :: ns => .cons (.int n) (Rps.ints ns)
theorem Rps.ints_inv : ∀ {ns : List Int} {vs : List V}, Rps K mg w vs (ns.map D.int) → vs = ns.map V.int
  | [], _, h => by cases h; rfl
  | n :: ns, _, h => by
    cases h with
    | cons h1 h2 =>
      cases h1
      rw [Rps.ints_inv h2]
      rfl
theorem Rps.bls_inv : ∀ {ns : List Bool} {vs : List V}, Rps K mg w vs (ns.map D.bl) → vs = ns.map V.bl
  | [], _, h => by cases h; rfl
  | n :: ns, _, h => by
    cases h with
    | cons h1 h2 =>
      cases h1
      rw [Rps.bls_inv h2]
      rfl
theorem Rpf.lookup : ∀ {ds : List (Str × D)} {vs : List (Str × V)} {x : Str} {d : D}, Rpf K mg w vs ds → ds.lookup x = some d → ∃ v, vs.lookup x = some v ∧ Rp K mg w v d
  | [], _, _, _, h, e => by simp at e
  | (y, d) :: ds, _, x, _, h, e => by
    cases h with
    | cons h1 h2 =>
      rw [List.lookup_cons] at e ⊢
      cases q : x == y with
      | true =>
        rw [q] at e
        simp at e
        subst e
        exact ⟨_, rfl, h1⟩
      | false =>
        rw [q] at e
        exact Rpf.lookup h2 e
theorem Rpf.lookup_none : ∀ {ds : List (Str × D)} {vs : List (Str × V)} {x : Str}, Rpf K mg w vs ds → ds.lookup x = none → vs.lookup x = none
  | [], _, _, h, e => by cases h; rfl
  | (y, d) :: ds, _, x, h, e => by
    cases h with
    | cons h1 h2 =>
      rw [List.lookup_cons] at e ⊢
      cases q : x == y with
      | true =>
        rw [q] at e
        simp at e
      | false =>
        rw [q] at e
        exact Rpf.lookup_none h2 e
theorem Rpf.length : ∀ {ds : List (Str × D)} {vs : List (Str × V)}, Rpf K mg w vs ds → vs.length = ds.length
  | [], _, h => by cases h; rfl
  | (_, _) :: ds, _, h => by
    cases h with
    | cons h1 h2 => rw [List.length_cons, List.length_cons, Rpf.length h2]
theorem CR.mono_of {a : Addr} {c : Ce} (g : Gr w w') (e : w'.H a = w.H a) (h : CR K mg w a c) : CR K mg w' a c := by
  cases h with
  | lst h1 h2 => exact .lst (e.trans h1) (h2.mono g)
  | obj h0 h1 h2 => exact .obj h0 (e.trans h1) (h2.mono g)
  | dic h1 h2 h3 h4 h5 h6 => exact .dic (e.trans h1) h2 h3 (h4.mono g) h5 (h6.mono g)
  | dki h1 h2 h3 => exact .dki (e.trans h1) h2 (h3.mono g)
theorem heap_of_size : ∀ n : Nat, ∃ h : Heap, h.objs.size = n ∧ ∀ b o, h.get? b = Option.some o → o.data = .plain
  | 0 => ⟨{}, rfl, fun b o e => by simp [Heap.get?] at e⟩
  | n + 1 => by
    obtain ⟨h, e, hp⟩ := heap_of_size n
    refine ⟨h.push { cls := .none, data := .plain }, by rw [Heap.size_push, e], fun b o q => ?_⟩
    by_cases hb : b = h.objs.size
    · subst hb
      rw [Heap.get?_push_size _ rfl] at q
      cases q
      rfl
    · rw [Heap.get?_push_ne _ _ _ hb] at q
      exact hp b o q
theorem dic_mut {wo : World} {a : Addr} {xs : List (NestedKey × Addr × Value)} : MutD (Option.some (DicO wo a xs)) := by
  intro c q z
  injection z with z
  obtain ⟨h, hs, hp⟩ := heap_of_size c
  subst hs
  have e : (h.push { cls := .none, data := .fields #[.none, .str q default] }).get? h.objs.size = Option.some { cls := .none, data := .fields #[.none, .str q default] } := Heap.get?_push_size _ rfl
  have y : ∃ (oc : Obj) (vs : Array Value) (t : Tok), (h.push { cls := .none, data := .fields #[.none, .str q default] }).get? h.objs.size = Option.some oc ∧ oc.data = .fields vs ∧ vs[1]? = Option.some (.str q t) := ⟨_, _, default, e, rfl, rfl⟩
  have y' := (congrFun z (h.push { cls := .none, data := .fields #[.none, .str q default] })).mpr y
  obtain ⟨_, o, es, ep, e1, _, e2, _⟩ := y'
  by_cases ha : a = h.objs.size
  · subst ha
    have e3 := e.symm.trans e1
    injection e3 with e3
    rw [← e3] at e2
    cases e2
  · rw [Heap.get?_push_ne _ _ _ ha] at e1
    rw [hp a o e1] at e2
    cases e2
theorem CR.some {a : Addr} {c : Ce} (h : CR K mg w a c) : ∃ o, w.H a = some o ∧ MutD (some o) := by
  cases h with
  | lst h1 h2 => exact ⟨_, h1, trivial⟩
  | obj h0 h1 h2 => exact ⟨_, h1, trivial⟩
  | dic h1 => exact ⟨_, h1, dic_mut⟩
  | dki h1 => exact ⟨_, h1, trivial⟩
theorem WOk.live {a : Addr} (ok : WOk K mg w) (h : w.live a) : ∃ o, w.H a = some o ∧ MutD (some o) := by
  rcases h with ⟨k, c, e1, e2⟩ | ⟨o, e⟩
  · obtain ⟨b, q1, q2⟩ := ok.at_ k c e1
    rw [e2] at q1
    cases q1
    exact q2.some
  · exact ⟨o, ok.hidH a o e⟩
theorem WOk.new {a : Addr} (ok : WOk K mg w) (h : w.H a = none) : ¬ w.live a := fun q => by
  obtain ⟨o, e, _⟩ := ok.live q
  rw [h] at e
  cases e
theorem WOk.noCode {c : Addr} {q : Str} (ok : WOk K mg w) (h : w.H c = some (LamX.CodeO c q)) : ¬ w.live c := fun l => by
  obtain ⟨o, e, m⟩ := ok.live l
  rw [h] at e
  cases e
  exact code_not_mut m
theorem WOk.tab_of (ok : WOk K mg w) (g : Gr w w') (ht : ∀ a ps, w.H a = some (.tbl ps) → w'.H a = some (.tbl ps)) : LamX.Tabs mg.tb w'.H := fun p hp => by
  obtain ⟨ps, h1, h2, h3⟩ := ok.tab p hp
  refine ⟨ps, ht _ _ h1, h2, fun pos cv hc => ?_⟩
  obtain ⟨c, e1, e2⟩ := h3 pos cv hc
  exact ⟨c, e1, (g.im _ _ e2 LamX.codeO_ne (ok.noCode e2)).1⟩
end
end PD
set_option Elab.async false
set_option linter.all false
set_option maxRecDepth 100000
set_option maxHeartbeats 4000000
/-! PD, part 2: how worlds change. -/
namespace PD
open PySem PySem.Spec PyProof.Rows L2
section
variable {K : Frag} {mg : MG} {w w' : Wd} {p a : Addr} {o o' : HO} {t : List (Addr × HO)} {ds : List D} {xs : List V}

/-! ### an object that never changes -/
def Wd.put (w : Wd) (p : Addr) (o : HO) : Wd := { w with H := upd w.H p o }
theorem gr_put (h : w.H p = none) : Gr w (w.put p o) where
  al := ⟨[], by simp [Wd.put]⟩
  im := fun a u e _ n => ⟨by show upd w.H p o a = some u; rw [upd_ne (ne_of_none e h)]; exact e, n⟩
  tp := fun a xs e => by show upd w.H p o a = _; rw [upd_ne (ne_of_none e h)]; exact e
  fz := fun a u x e => by show upd w.H p o a = _; rw [upd_ne (ne_of_none e h)]; exact e
theorem ok_put (ok : WOk K mg w) (h : w.H p = none) : WOk K mg (w.put p o) where
  len := ok.len
  at_ := fun k c e => by
    obtain ⟨b, e1, r⟩ := ok.at_ k c e
    obtain ⟨u, eu, _⟩ := r.some
    exact ⟨b, e1, r.mono_of (gr_put h) (by show upd w.H p o b = _; rw [upd_ne (ne_of_none eu h)])⟩
  inj := ok.inj
  hidH := fun b u m => by
    obtain ⟨e, mu⟩ := ok.hidH b u m
    exact ⟨by show upd w.H p o b = _; rw [upd_ne (ne_of_none e h)]; exact e, mu⟩
  hidC := ok.hidC
  hidN := ok.hidN
  tab := ok.tab_of (gr_put h) fun a ps e => by show upd w.H p o a = _; rw [upd_ne (ne_of_none e h)]; exact e

/-! ### an object under work -/
def Wd.hide (w : Wd) (p : Addr) (o : HO) : Wd := { w with hid := (p, o) :: w.hid, H := upd w.H p o }
theorem live_hide : (w.hide p o).live a ↔ w.live a ∨ a = p := by
  unfold Wd.live Wd.hide
  simp only [List.mem_cons, Prod.mk.injEq]
  constructor
  · rintro (h | ⟨u, ⟨h, _⟩ | h⟩)
    · exact .inl (.inl h)
    · exact .inr h
    · exact .inl (.inr ⟨u, h⟩)
  · rintro ((h | ⟨u, h⟩) | h)
    · exact .inl h
    · exact .inr ⟨u, .inr h⟩
    · exact .inr ⟨o, .inl ⟨h, rfl⟩⟩
theorem gr_hide (h : w.H p = none) : Gr w (w.hide p o) where
  al := ⟨[], by simp [Wd.hide]⟩
  im := fun a u e _ n => ⟨by show upd w.H p o a = some u; rw [upd_ne (ne_of_none e h)]; exact e, fun q => (live_hide.mp q).elim n (ne_of_none e h)⟩
  tp := fun a xs e => by show upd w.H p o a = _; rw [upd_ne (ne_of_none e h)]; exact e
  fz := fun a u x e => by show upd w.H p o a = _; rw [upd_ne (ne_of_none e h)]; exact e
theorem ok_hide (ok : WOk K mg w) (h : w.H p = none) (mu : MutD (some o)) : WOk K mg (w.hide p o) where
  len := ok.len
  at_ := fun k c e => by
    obtain ⟨b, e1, r⟩ := ok.at_ k c e
    obtain ⟨u, eu, _⟩ := r.some
    exact ⟨b, e1, r.mono_of (gr_hide h) (by show upd w.H p o b = _; rw [upd_ne (ne_of_none eu h)])⟩
  inj := ok.inj
  hidH := fun b u m => by
    rcases List.mem_cons.mp m with e | m
    · cases e
      exact ⟨upd_same, mu⟩
    · obtain ⟨e, mu⟩ := ok.hidH b u m
      exact ⟨by show upd w.H p o b = _; rw [upd_ne (ne_of_none e h)]; exact e, mu⟩
  hidC := fun b u m k c e q => by
    rcases List.mem_cons.mp m with z | m
    · cases z
      obtain ⟨b, e1, r⟩ := ok.at_ k c e
      have q' : w.al[k]? = some p := q
      rw [q'] at e1
      cases e1
      obtain ⟨u, eu, _⟩ := r.some
      rw [h] at eu
      cases eu
    · exact ok.hidC b u m k c e q
  tab := ok.tab_of (gr_hide h) fun a ps e => by show upd w.H p o a = _; rw [upd_ne (ne_of_none e h)]; exact e
  hidN := by
    show (p :: w.hid.map (·.1)).Nodup
    refine List.nodup_cons.mpr ⟨fun m => ?_, ok.hidN⟩
    obtain ⟨⟨b, u⟩, m, e⟩ := List.mem_map.mp m
    obtain ⟨e1, _⟩ := ok.hidH b u m
    have e' : b = p := e
    rw [e', h] at e1
    cases e1
/-- its content changes -/
def Wd.rehide (w : Wd) (t : List (Addr × HO)) (p : Addr) (o : HO) : Wd := { w with hid := (p, o) :: t, H := upd w.H p o }
theorem live_top (hw : w.hid = (p, o') :: t) : (w.rehide t p o).live a ↔ w.live a := by
  unfold Wd.live Wd.rehide
  rw [hw]
  simp only [List.mem_cons, Prod.mk.injEq]
  constructor
  · rintro (h | ⟨u, ⟨h, _⟩ | h⟩)
    · exact .inl h
    · exact .inr ⟨o', .inl ⟨h, rfl⟩⟩
    · exact .inr ⟨u, .inr h⟩
  · rintro (h | ⟨u, ⟨h, _⟩ | h⟩)
    · exact .inl h
    · exact .inr ⟨o, .inl ⟨h, rfl⟩⟩
    · exact .inr ⟨u, .inr h⟩
theorem ne_top (hw : w.hid = (p, o') :: t) (n : ¬ w.live a) : a ≠ p := fun e => n (.inr ⟨o', by rw [hw, e]; exact List.mem_cons_self⟩)
theorem ne_mut (ok : WOk K mg w) (hw : w.hid = (p, o') :: t) (e : w.H a = some o) (n : ¬ MutD (some o)) : a ≠ p := fun z => by
  obtain ⟨e1, mu⟩ := ok.hidH p o' (by rw [hw]; exact List.mem_cons_self)
  rw [← z, e] at e1
  cases e1
  exact n mu
theorem gr_rehide (ok : WOk K mg w) (hw : w.hid = (p, o') :: t) : Gr w (w.rehide t p o) where
  al := ⟨[], by simp [Wd.rehide]⟩
  im := fun a u e _ n => ⟨by show upd w.H p o a = some u; rw [upd_ne (ne_top hw n)]; exact e, fun q => n ((live_top hw).mp q)⟩
  tp := fun a xs e => by show upd w.H p o a = _; rw [upd_ne (ne_mut ok hw e fun z => z)]; exact e
  fz := fun a u x e => by show upd w.H p o a = _; rw [upd_ne (ne_mut ok hw e fun z => z)]; exact e
theorem ok_rehide (ok : WOk K mg w) (hw : w.hid = (p, o') :: t) (mu : MutD (some o)) : WOk K mg (w.rehide t p o) where
  len := ok.len
  at_ := fun k c e => by
    obtain ⟨b, e1, r⟩ := ok.at_ k c e
    have nb : b ≠ p := fun z => ok.hidC p o' (by rw [hw]; exact List.mem_cons_self) k c e (by rw [← z]; exact e1)
    exact ⟨b, e1, r.mono_of (gr_rehide ok hw) (by show upd w.H p o b = _; rw [upd_ne nb])⟩
  inj := ok.inj
  hidH := fun b u m => by
    have N := ok.hidN
    rw [hw] at N
    rcases List.mem_cons.mp m with e | m
    · cases e
      exact ⟨upd_same, mu⟩
    · obtain ⟨e, mu⟩ := ok.hidH b u (by rw [hw]; exact List.mem_cons_of_mem _ m)
      have nb : b ≠ p := fun z => (List.nodup_cons.mp N).1 (List.mem_map.mpr ⟨(b, u), m, z⟩)
      exact ⟨by show upd w.H p o b = _; rw [upd_ne nb]; exact e, mu⟩
  hidC := fun b u m k c e => by
    rcases List.mem_cons.mp m with z | m
    · cases z
      exact ok.hidC p o' (by rw [hw]; exact List.mem_cons_self) k c e
    · exact ok.hidC b u (by rw [hw]; exact List.mem_cons_of_mem _ m) k c e
  tab := ok.tab_of (gr_rehide ok hw) fun a ps e => by show upd w.H p o a = _; rw [upd_ne (ne_mut ok hw e fun z => z)]; exact e
  hidN := by
    have N := ok.hidN
    rw [hw] at N
    exact N
/-- it is data from now on -/
def Wd.unhide (w : Wd) (t : List (Addr × HO)) : Wd := { w with hid := t }
theorem live_un (hw : w.hid = (p, o) :: t) (h : (w.unhide t).live a) : w.live a := by
  rcases h with h | ⟨u, h⟩
  · exact .inl h
  · exact .inr ⟨u, by rw [hw]; exact List.mem_cons_of_mem _ h⟩
theorem gr_unhide (hw : w.hid = (p, o) :: t) : Gr w (w.unhide t) :=
  ⟨⟨[], by simp [Wd.unhide]⟩, fun _ _ h _ n => ⟨h, fun q => n (live_un hw q)⟩, fun _ _ h => h, fun _ _ _ h => h⟩
theorem ok_unhide (ok : WOk K mg w) (hw : w.hid = (p, o) :: t) : WOk K mg (w.unhide t) where
  len := ok.len
  at_ := fun k c e => by
    obtain ⟨b, e1, r⟩ := ok.at_ k c e
    exact ⟨b, e1, r.mono_of (gr_unhide hw) rfl⟩
  inj := ok.inj
  hidH := fun b u m => ok.hidH b u (by rw [hw]; exact List.mem_cons_of_mem _ m)
  hidC := fun b u m => ok.hidC b u (by rw [hw]; exact List.mem_cons_of_mem _ m)
  tab := ok.tab_of (gr_unhide hw) fun _ _ e => e
  hidN := by
    have N := ok.hidN
    rw [hw] at N
    exact (List.nodup_cons.mp N).2
theorem not_live_un (ok : WOk K mg w) (hw : w.hid = (p, o) :: t) : ¬ (w.unhide t).live p := by
  rintro (⟨k, c, e1, e2⟩ | ⟨u, m⟩)
  · exact ok.hidC p o (by rw [hw]; exact List.mem_cons_self) k c e1 e2
  · have N := ok.hidN
    rw [hw] at N
    exact (List.nodup_cons.mp N).1 (List.mem_map.mpr ⟨(p, u), m, rfl⟩)
theorem rp_unhide (ok : WOk K mg w) (hw : w.hid = (p, .lst xs) :: t) (r : Rps K mg w xs ds) : Rp K mg (w.unhide t) (.ref p) (.lst ds) :=
  .lst (ok.hidH p _ (by rw [hw]; exact List.mem_cons_self)).1 (not_live_un ok hw) (r.mono (gr_unhide hw))

/-! ### it is a cell from now on -/
def Wd.toCell (w : Wd) (t : List (Addr × HO)) (p : Addr) (c : Ce) : Wd := { w with al := w.al ++ [p], ce := w.ce ++ [some c], hid := t }
theorem live_cell {c : Ce} (ok : WOk K mg w) (hw : w.hid = (p, o) :: t) (h : (w.toCell t p c).live a) : w.live a := by
  rcases h with ⟨k, c', e1, e2⟩ | ⟨u, h⟩
  · have e1' : (w.ce ++ [some c])[k]? = some (some c') := e1
    have e2' : (w.al ++ [p])[k]? = some a := e2
    by_cases hk : k < w.ce.length
    · rw [List.getElem?_append_left hk] at e1'
      rw [List.getElem?_append_left (by rw [ok.len]; exact hk)] at e2'
      exact .inl ⟨k, c', e1', e2'⟩
    · have hk' : k = w.al.length := by
        have z := (List.getElem?_eq_some_iff.mp e2').1
        rw [List.length_append, List.length_singleton] at z
        have := ok.len
        omega
      subst hk'
      rw [List.getElem?_append_right (Nat.le_refl _), Nat.sub_self] at e2'
      cases e2'
      exact .inr ⟨o, by rw [hw]; exact List.mem_cons_self⟩
  · exact .inr ⟨u, by rw [hw]; exact List.mem_cons_of_mem _ h⟩
theorem gr_toCell {c : Ce} (ok : WOk K mg w) (hw : w.hid = (p, o) :: t) : Gr w (w.toCell t p c) :=
  ⟨⟨[p], rfl⟩, fun _ _ h _ n => ⟨h, fun q => n (live_cell ok hw q)⟩, fun _ _ h => h, fun _ _ _ h => h⟩
theorem ok_toCell {c : Ce} (ok : WOk K mg w) (hw : w.hid = (p, o) :: t) (r : CR K mg w p c) : WOk K mg (w.toCell t p c) where
  len := by
    show (w.al ++ [p]).length = (w.ce ++ [some c]).length
    rw [List.length_append, List.length_append, ok.len]
    rfl
  at_ := fun k c' e => by
    have e' : (w.ce ++ [some c])[k]? = some (some c') := e
    by_cases hk : k < w.ce.length
    · rw [List.getElem?_append_left hk] at e'
      obtain ⟨b, e1, r⟩ := ok.at_ k c' e'
      refine ⟨b, ?_, r.mono_of (gr_toCell ok hw) rfl⟩
      show (w.al ++ [p])[k]? = some b
      rw [List.getElem?_append_left (by rw [ok.len]; exact hk)]
      exact e1
    · have hk' : k = w.ce.length := by
        have z := (List.getElem?_eq_some_iff.mp e').1
        rw [List.length_append, List.length_singleton] at z
        omega
      subst hk'
      rw [List.getElem?_append_right (Nat.le_refl _), Nat.sub_self] at e'
      cases e'
      refine ⟨p, ?_, r.mono_of (gr_toCell ok hw) rfl⟩
      show (w.al ++ [p])[w.ce.length]? = some p
      rw [← ok.len, List.getElem?_append_right (Nat.le_refl _), Nat.sub_self]
      rfl
  inj := fun j k a c1 c2 e1 e2 e3 e4 => by
    have e1' : (w.ce ++ [some c])[j]? = some (some c1) := e1
    have e2' : (w.ce ++ [some c])[k]? = some (some c2) := e2
    have e3' : (w.al ++ [p])[j]? = some a := e3
    have e4' : (w.al ++ [p])[k]? = some a := e4
    have hl := ok.len
    have lj := (List.getElem?_eq_some_iff.mp e1').1
    have lk := (List.getElem?_eq_some_iff.mp e2').1
    rw [List.length_append, List.length_singleton] at lj lk
    by_cases hj : j < w.ce.length
    · rw [List.getElem?_append_left hj] at e1'
      rw [List.getElem?_append_left (by omega)] at e3'
      by_cases hk : k < w.ce.length
      · rw [List.getElem?_append_left hk] at e2'
        rw [List.getElem?_append_left (by omega)] at e4'
        exact ok.inj j k a c1 c2 e1' e2' e3' e4'
      · have hk' : k = w.al.length := by omega
        subst hk'
        rw [List.getElem?_append_right (Nat.le_refl _), Nat.sub_self] at e4'
        cases e4'
        exact absurd e3' (ok.hidC p o (by rw [hw]; exact List.mem_cons_self) j c1 e1')
    · have hj' : j = w.al.length := by omega
      subst hj'
      rw [List.getElem?_append_right (Nat.le_refl _), Nat.sub_self] at e3'
      cases e3'
      by_cases hk : k < w.ce.length
      · rw [List.getElem?_append_left hk] at e2'
        rw [List.getElem?_append_left (by omega)] at e4'
        exact absurd e4' (ok.hidC p o (by rw [hw]; exact List.mem_cons_self) k c2 e2')
      · omega
  hidH := fun b u m => ok.hidH b u (by rw [hw]; exact List.mem_cons_of_mem _ m)
  hidC := fun b u m k c' e q => by
    have e' : (w.ce ++ [some c])[k]? = some (some c') := e
    have q' : (w.al ++ [p])[k]? = some b := q
    have hl := ok.len
    have lk := (List.getElem?_eq_some_iff.mp e').1
    rw [List.length_append, List.length_singleton] at lk
    by_cases hk : k < w.ce.length
    · rw [List.getElem?_append_left hk] at e'
      rw [List.getElem?_append_left (by omega)] at q'
      exact ok.hidC b u (by rw [hw]; exact List.mem_cons_of_mem _ m) k c' e' q'
    · have hk' : k = w.al.length := by omega
      subst hk'
      rw [List.getElem?_append_right (Nat.le_refl _), Nat.sub_self] at q'
      cases q'
      have N := ok.hidN
      rw [hw] at N
      exact (List.nodup_cons.mp N).1 (List.mem_map.mpr ⟨(p, u), m, rfl⟩)
  tab := ok.tab_of (gr_toCell ok hw) fun _ _ e => e
  hidN := by
    have N := ok.hidN
    rw [hw] at N
    exact (List.nodup_cons.mp N).2
theorem rp_toCell {c : Ce} : Rp K mg (w.toCell t p c) (.ref p) (.cell w.al.length) :=
  .cell (by
    show (w.al ++ [p])[w.al.length]? = some p
    rw [List.getElem?_append_right (Nat.le_refl _), Nat.sub_self]
    rfl)

/-! ### a cell is written -/
def Wd.write (w : Wd) (k : Nat) (c : Ce) (a : Addr) (o : HO) : Wd := { w with ce := w.ce.set k (some c), H := upd w.H a o }
theorem live_write {k : Nat} {c c' : Ce} (e : w.ce[k]? = some (some c)) {b : Addr} : (w.write k c' a o).live b ↔ w.live b := by
  have hk := (List.getElem?_eq_some_iff.mp e).1
  constructor
  · rintro (⟨j, d, e1, e2⟩ | h)
    · have e1' : (w.ce.set k (some c'))[j]? = some (some d) := e1
      by_cases hj : k = j
      · subst hj
        exact .inl ⟨k, c, e, e2⟩
      · rw [List.getElem?_set_ne hj] at e1'
        exact .inl ⟨j, d, e1', e2⟩
    · exact .inr h
  · rintro (⟨j, d, e1, e2⟩ | h)
    · by_cases hj : k = j
      · subst hj
        exact .inl ⟨k, c', by show (w.ce.set k (some c'))[k]? = _; rw [List.getElem?_set_self hk], e2⟩
      · exact .inl ⟨j, d, by show (w.ce.set k (some c'))[j]? = _; rw [List.getElem?_set_ne hj]; exact e1, e2⟩
    · exact .inr h
theorem gr_write {k : Nat} {c c' : Ce} (ok : WOk K mg w) (e : w.ce[k]? = some (some c)) (ea : w.al[k]? = some a) : Gr w (w.write k c' a o) := by
  have la : w.live a := .inl ⟨k, c, e, ea⟩
  have nm : ∀ {b u}, w.H b = some u → ¬ MutD (some u) → b ≠ a := fun {b u} eb n z => by
    obtain ⟨u', e', mu⟩ := ok.live la
    rw [← z, eb] at e'
    cases e'
    exact n mu
  refine ⟨⟨[], by simp [Wd.write]⟩, fun b u eb _ n => ⟨?_, fun q => n ((live_write e).mp q)⟩, fun b xs eb => ?_, fun b u x eb => ?_⟩
  · show upd w.H a o b = some u
    rw [upd_ne (fun z => n (by rw [z]; exact la))]
    exact eb
  · show upd w.H a o b = _
    rw [upd_ne (nm eb fun z => z)]
    exact eb
  · show upd w.H a o b = _
    rw [upd_ne (nm eb fun z => z)]
    exact eb
theorem ok_write {k : Nat} {c c' : Ce} (ok : WOk K mg w) (e : w.ce[k]? = some (some c)) (ea : w.al[k]? = some a) (r : CR K mg (w.write k c' a o) a c') : WOk K mg (w.write k c' a o) where
  len := by
    show w.al.length = (w.ce.set k (some c')).length
    rw [List.length_set]
    exact ok.len
  at_ := fun j d e1 => by
    have e1' : (w.ce.set k (some c'))[j]? = some (some d) := e1
    by_cases hj : k = j
    · subst hj
      rw [List.getElem?_set_self (List.getElem?_eq_some_iff.mp e).1] at e1'
      cases e1'
      exact ⟨a, ea, r⟩
    · rw [List.getElem?_set_ne hj] at e1'
      obtain ⟨b, eb, rb⟩ := ok.at_ j d e1'
      have nb : b ≠ a := fun z => hj (ok.inj k j a c d e e1' ea (by rw [← z]; exact eb))
      exact ⟨b, eb, rb.mono_of (gr_write ok e ea) (by show upd w.H a o b = _; rw [upd_ne nb])⟩
  inj := fun i j b c1 c2 e1 e2 e3 e4 => by
    have back : ∀ {i : Nat} {c1 : Ce}, (w.ce.set k (some c'))[i]? = some (some c1) → ∃ d, w.ce[i]? = some (some d) := fun {i c1} e1 => by
      by_cases hj : k = i
      · subst hj
        exact ⟨c, e⟩
      · rw [List.getElem?_set_ne hj] at e1
        exact ⟨_, e1⟩
    obtain ⟨d1, f1⟩ := back e1
    obtain ⟨d2, f2⟩ := back e2
    exact ok.inj i j b d1 d2 f1 f2 e3 e4
  hidH := fun b u m => by
    obtain ⟨e1, mu⟩ := ok.hidH b u m
    have nb : b ≠ a := fun z => ok.hidC b u m k c e (by rw [z]; exact ea)
    exact ⟨by show upd w.H a o b = _; rw [upd_ne nb]; exact e1, mu⟩
  hidC := fun b u m j d e1 => by
    have e1' : (w.ce.set k (some c'))[j]? = some (some d) := e1
    by_cases hj : k = j
    · subst hj
      exact ok.hidC b u m k c e
    · rw [List.getElem?_set_ne hj] at e1'
      exact ok.hidC b u m j d e1'
  hidN := ok.hidN
  tab := ok.tab_of (gr_write ok e ea) fun b ps eb => by
    have nb : b ≠ a := fun z => by
      obtain ⟨u', e', mu⟩ := ok.live (.inl ⟨k, c, e, ea⟩)
      rw [← z, eb] at e'
      cases e'
      exact mu
    show upd w.H a o b = _
    rw [upd_ne nb]
    exact eb

/-! ### a cell is frozen: it is data from now on -/
def Wd.freeze (w : Wd) (k : Nat) : Wd := { w with ce := w.ce.set k none }
theorem live_freeze {k : Nat} {b : Addr} (h : (w.freeze k).live b) : w.live b := by
  rcases h with ⟨j, d, e1, e2⟩ | h
  · have e1' : (w.ce.set k none)[j]? = some (some d) := e1
    by_cases hj : k = j
    · subst hj
      by_cases hk : k < w.ce.length
      · rw [List.getElem?_set_self hk] at e1'
        cases e1'
      · rw [List.getElem?_eq_none (by rw [List.length_set]; omega)] at e1'
        cases e1'
    · rw [List.getElem?_set_ne hj] at e1'
      exact .inl ⟨j, d, e1', e2⟩
  · exact .inr h
theorem gr_freeze {k : Nat} : Gr w (w.freeze k) := ⟨⟨[], by simp [Wd.freeze]⟩, fun _ _ h _ n => ⟨h, fun q => n (live_freeze q)⟩, fun _ _ h => h, fun _ _ _ h => h⟩
theorem freeze_at {k j : Nat} {d : Ce} (e1 : (w.freeze k).ce[j]? = some (some d)) : j ≠ k ∧ w.ce[j]? = some (some d) := by
  have e1' : (w.ce.set k none)[j]? = some (some d) := e1
  by_cases hj : k = j
  · subst hj
    by_cases hk : k < w.ce.length
    · rw [List.getElem?_set_self hk] at e1'
      cases e1'
    · rw [List.getElem?_eq_none (by rw [List.length_set]; omega)] at e1'
      cases e1'
  · rw [List.getElem?_set_ne hj] at e1'
    exact ⟨fun z => hj z.symm, e1'⟩
theorem ok_freeze {k : Nat} (ok : WOk K mg w) : WOk K mg (w.freeze k) where
  len := by
    show w.al.length = (w.ce.set k none).length
    rw [List.length_set]
    exact ok.len
  at_ := fun j d e1 => by
    obtain ⟨b, eb, rb⟩ := ok.at_ j d (freeze_at e1).2
    exact ⟨b, eb, rb.mono_of gr_freeze rfl⟩
  inj := fun i j b c1 c2 e1 e2 => ok.inj i j b c1 c2 (freeze_at e1).2 (freeze_at e2).2
  hidH := ok.hidH
  hidC := fun b u m j d e1 => ok.hidC b u m j d (freeze_at e1).2
  hidN := ok.hidN
  tab := ok.tab_of gr_freeze fun _ _ e => e
theorem not_live_freeze {k : Nat} {c : Ce} (ok : WOk K mg w) (e : w.ce[k]? = some (some c)) (ea : w.al[k]? = some a) : ¬ (w.freeze k).live a := by
  rintro (⟨j, d, e1, e2⟩ | ⟨u, m⟩)
  · obtain ⟨n, e1⟩ := freeze_at e1
    exact n (ok.inj j k a d c e1 e e2 ea)
  · exact ok.hidC a u m k c e ea
/-- what a frozen cell is -/
def Ce.data : Ce → D
  | .lst ds => .lst ds
  | .obj c fs => .obj c fs
  | .dic _ => .opq
  | .dki _ => .opq
theorem rp_freeze {k : Nat} {c : Ce} (ok : WOk K mg w) (e : w.ce[k]? = some (some c)) (ea : w.al[k]? = some a) : Rp K mg (w.freeze k) (.ref a) c.data := by
  obtain ⟨b, eb, rb⟩ := ok.at_ k c e
  rw [ea] at eb
  cases eb
  cases rb with
  | lst h1 h2 => exact .lst h1 (not_live_freeze ok e ea) (h2.mono gr_freeze)
  | obj h0 h1 h2 => exact .obj h0 h1 (not_live_freeze ok e ea) (h2.mono gr_freeze)
  | dic => exact .opq (fun z => by cases z)
  | dki => exact .opq (fun z => by cases z)
end

/-! ### what a value's items are -/
/-- the list that a data list, or a cell's list, is -/
def lstOf (κ : Cs) : D → Option (List D)
  | .lst ds => some ds
  | .cell k => match κ[k]? with
    | some (some (.lst ds)) => some ds
    | _ => none
  | _ => none
theorem lstOf_at {K : Frag} {mg : MG} {w : Wd} {v : V} {d : D} {ds : List D} (ok : WOk K mg w) (r : Rp K mg w v d) (h : lstOf w.ce d = some ds) : ∃ a xs, v = .ref a ∧ w.H a = some (.lst xs) ∧ Rps K mg w xs ds := by
  cases d with
  | lst es =>
    cases h
    cases r with
    | lst h1 h2 h3 => exact ⟨_, _, rfl, h1, h3⟩
  | cell k =>
    cases r with
    | cell ea =>
      have h' : (match w.ce[k]? with
        | some (some (.lst ds)) => some ds
        | _ => none) = some ds := h
      split at h'
      · rename_i q
        cases h'
        obtain ⟨b, eb, rb⟩ := ok.at_ k _ q
        rw [ea] at eb
        cases eb
        cases rb with
        | lst h1 h2 => exact ⟨_, _, rfl, h1, h2⟩
      · cases h'
  | _ => cases h
end PD
set_option Elab.async false
set_option linter.all false
set_option maxRecDepth 100000
set_option maxHeartbeats 4000000
/-! PD, part 3: readings at the level of data, lifted; expressions. -/
namespace PD
open PySem PySem.Spec PyProof.Rows L2

abbrev Rho := List (Option D)
abbrev AE := Rho → Cs → (D → Cs → Prop) → Prop
abbrev AA := Rho → Cs → (List D → Cs → Prop) → Prop
abbrev AT := Rho → Cs → (Bool → Cs → Prop) → Prop
abbrev A2 := D → D → Cs → (D → Cs → Prop) → Prop
abbrev A1 := D → Cs → (D → Cs → Prop) → Prop
abbrev AC := List D → Cs → (D → Cs → Prop) → Prop

structure StOk (K : Frag) (mg : MG) (w : Wd) (ρ : Rho) (σ : L2.St) : Prop where
  len : ρ.length = σ.length
  at_ : ∀ (i : Nat) (d : D), ρ[i]? = some (some d) → ∃ v, σ[i]? = some (some v) ∧ Rp K mg w v d
structure To (K : Frag) (mg : MG) (w w' : Wd) : Prop where
  gr : Gr w w'
  hid : w'.hid = w.hid
  ok : WOk K mg w'

section
variable {K : Frag} {mg : MG} {w w' w1 w2 : Wd} {ρ : Rho} {σ : L2.St} {H : Hp} {Q : VK} {p : Addr} {o : HO}
theorem StOk.mono (s : StOk K mg w ρ σ) (g : Gr w w') : StOk K mg w' ρ σ := ⟨s.len, fun i d e => by
  obtain ⟨v, e1, r⟩ := s.at_ i d e
  exact ⟨v, e1, r.mono g⟩⟩
theorem To.refl (ok : WOk K mg w) : To K mg w w := ⟨.refl w, rfl, ok⟩
theorem To.trans (a : To K mg w w1) (b : To K mg w1 w2) : To K mg w w2 := ⟨a.gr.trans b.gr, b.hid.trans a.hid, b.ok⟩
theorem to_put (ok : WOk K mg w) (h : w.H p = none) : To K mg w (w.put p o) := ⟨gr_put h, rfl, ok_put ok h⟩

def lE (K : Frag) (mg : MG) (t : AE) : TE := fun σ H Q => ∃ (w : Wd) (ρ : Rho) (R : D → Cs → Prop), w.H = H ∧ WOk K mg w ∧ StOk K mg w ρ σ ∧ t ρ w.ce R ∧
  ∀ d w' v, R d w'.ce → To K mg w w' → Rp K mg w' v d → Q v w'.H
def lT (K : Frag) (mg : MG) (t : AT) : TT := fun σ H Q => ∃ (w : Wd) (ρ : Rho) (R : Bool → Cs → Prop), w.H = H ∧ WOk K mg w ∧ StOk K mg w ρ σ ∧ t ρ w.ce R ∧
  ∀ b w', R b w'.ce → To K mg w w' → Q b w'.H
def lA (K : Frag) (mg : MG) (t : AA) : TA := fun σ H Q => ∃ (w : Wd) (ρ : Rho) (R : List D → Cs → Prop), w.H = H ∧ WOk K mg w ∧ StOk K mg w ρ σ ∧ t ρ w.ce R ∧
  ∀ ds w' vs, R ds w'.ce → To K mg w w' → Rps K mg w' vs ds → Q vs w'.H
/-- a new list, out of sight still -/
def lL (K : Frag) (mg : MG) (t : AA) : TE := fun σ H Q => ∃ (w : Wd) (ρ : Rho) (R : List D → Cs → Prop), w.H = H ∧ WOk K mg w ∧ StOk K mg w ρ σ ∧ t ρ w.ce R ∧
  ∀ ds w' p xs, R ds w'.ce → Gr w w' → w'.hid = (p, .lst xs) :: w.hid → WOk K mg w' → Rps K mg w' xs ds → Q (.ref p) w'.H

abbrev QE (Θ : TbL) (X : Cx) (e : Expr) (t : AE) : Prop := PE X e (lE X.K (X.mgx Θ) t)
abbrev QT (Θ : TbL) (X : Cx) (e : Expr) (t : AT) : Prop := PT X e (lT X.K (X.mgx Θ) t)
abbrev QW (Θ : TbL) (X : Cx) (e : Expr) (t : AT) : Prop := PW X e (lT X.K (X.mgx Θ) t)
abbrev QA (Θ : TbL) (X : Cx) (es : List Expr) (t : AA) : Prop := PA X es (lA X.K (X.mgx Θ) t)
abbrev QL (Θ : TbL) (X : Cx) (e : Expr) (t : AA) : Prop := PE X e (lL X.K (X.mgx Θ) t)

theorem _root_.L2.PE.imp {X : Cx} {e : Expr} {t t' : TE} (h : PE X e t) (f : ∀ σ H Q, t' σ H Q → t σ H Q) : PE X e t' := ⟨fun pins s σ H Q I hw => h.run pins s σ H Q I (f σ H Q hw)⟩
theorem _root_.L2.PT.imp {X : Cx} {e : Expr} {t t' : TT} (h : PT X e t) (f : ∀ σ H Q, t' σ H Q → t σ H Q) : PT X e t' := ⟨fun pins s σ H Q I hw => h.run pins s σ H Q I (f σ H Q hw)⟩
theorem _root_.L2.PW.imp {X : Cx} {e : Expr} {t t' : TT} (h : PW X e t) (f : ∀ σ H Q, t' σ H Q → t σ H Q) : PW X e t' := ⟨fun wh pins s σ H Q I hw => h.run wh pins s σ H Q I (f σ H Q hw)⟩
theorem _root_.L2.PA.imp {X : Cx} {e : List Expr} {t t' : TA} (h : PA X e t) (f : ∀ σ H Q, t' σ H Q → t σ H Q) : PA X e t' := ⟨fun pos pins s σ H Q I hw => h.run pos pins s σ H Q I (f σ H Q hw)⟩

/-! ### a list out of sight comes in sight -/
def aData (t : AA) : AE := fun ρ κ R => t ρ κ fun ds κ' => R (.lst ds) κ'
def aCell (t : AA) : AE := fun ρ κ R => t ρ κ fun ds κ' => R (.cell κ'.length) (κ' ++ [some (.lst ds)])
theorem un_list {ds : List D} {xs : List V} (g : Gr w w') (hh : w'.hid = (p, .lst xs) :: w.hid) (ok : WOk K mg w') (r : Rps K mg w' xs ds) : To K mg w (w'.unhide w.hid) ∧ Rp K mg (w'.unhide w.hid) (.ref p) (.lst ds) :=
  ⟨⟨g.trans (gr_unhide hh), rfl, ok_unhide ok hh⟩, rp_unhide ok hh r⟩
theorem cell_list {ds : List D} {xs : List V} (g : Gr w w') (hh : w'.hid = (p, .lst xs) :: w.hid) (ok : WOk K mg w') (r : Rps K mg w' xs ds) :
    To K mg w (w'.toCell w.hid p (.lst ds)) ∧ Rp K mg (w'.toCell w.hid p (.lst ds)) (.ref p) (.cell w'.ce.length) := by
  have e := (ok.hidH p _ (by rw [hh]; exact List.mem_cons_self)).1
  refine ⟨⟨g.trans (gr_toCell ok hh), rfl, ok_toCell ok hh (.lst e r)⟩, ?_⟩
  rw [← ok.len]
  exact rp_toCell
theorem q_data {X : Cx} {e : Expr} {t : AA} (h : QL Θ X e t) : QE Θ X e (aData t) := h.imp (by
  rintro σ H Q ⟨w, ρ, R, rfl, ok, st, h, k⟩
  refine ⟨w, ρ, _, rfl, ok, st, h, fun ds w' p xs hR g hh ok' r => ?_⟩
  obtain ⟨t1, r1⟩ := un_list g hh ok' r
  exact k _ (w'.unhide w.hid) _ hR t1 r1)
theorem q_cell {X : Cx} {e : Expr} {t : AA} (h : QL Θ X e t) : QE Θ X e (aCell t) := h.imp (by
  rintro σ H Q ⟨w, ρ, R, rfl, ok, st, h, k⟩
  refine ⟨w, ρ, _, rfl, ok, st, h, fun ds w' p xs hR g hh ok' r => ?_⟩
  obtain ⟨t1, r1⟩ := cell_list g hh ok' r
  exact k _ (w'.toCell w.hid p (.lst ds)) _ hR t1 r1)
/-- from a rule that makes a new list at a place that was free -/
theorem new_list {ds : List D} {xs : List V} {R : List D → Cs → Prop} (t1 : To K mg w w1) (r : Rps K mg w1 xs ds) (hR : R ds w1.ce) (hp : w1.H p = none)
    (k : ∀ ds w' p xs, R ds w'.ce → Gr w w' → w'.hid = (p, .lst xs) :: w.hid → WOk K mg w' → Rps K mg w' xs ds → Q (.ref p) w'.H) : Q (.ref p) (upd w1.H p (.lst xs)) :=
  k ds (w1.hide p (.lst xs)) p xs hR (t1.gr.trans (gr_hide hp)) (by show (p, HO.lst xs) :: w1.hid = _; rw [t1.hid]) (ok_hide t1.ok hp trivial) (r.mono (gr_hide hp))
end

section
variable {X : Cx} {e a b c : Expr} {es : List Expr} {t u s : AE} {ta ua : AA} {tt uu : AT} {pos : Pos}

/-! ### names, constants -/
def aVar (i : Nat) : AE := fun ρ κ R => ∃ d, ρ[i]? = some (some d) ∧ R d κ
def aC (d : D) : AE := fun _ κ R => R d κ
theorem q_var (i : Nat) {x : Str} (hN : X.N[i]? = some x := by rfl) (hv : Vis X.env.scope x := by first | exact Or.inl rfl | exact Or.inr (Or.inl rfl) | exact Or.inr (Or.inr rfl)) (hd : (x == ("__debug__" : Str)) = false := by decide)
    (hcd : (x == ("__classdict__" : Str)) = false := by decide) : QE Θ X (.Name x pos) (aVar i) := (pv i hN hv hd hcd).imp (by
  rintro σ H Q ⟨w, ρ, R, rfl, ok, st, ⟨d, e1, h⟩, k⟩
  obtain ⟨v, e2, r⟩ := st.at_ i d e1
  exact ⟨v, e2, k d w v h (.refl ok) r⟩)
theorem q_const {v : V} {d : D} (h : PE X e (tC v)) (r : ∀ w, Rp X.K (X.mgx Θ) w v d) : QE Θ X e (aC d) := h.imp (by
  rintro σ H Q ⟨w, ρ, R, rfl, ok, st, h, k⟩
  exact k d w v h (.refl ok) (r w))
theorem q_int {i : Int} {j} : QE Θ X (.Constant (.int i) j pos) (aC (.int i)) := q_const pe_int fun _ => .int i
theorem q_bl {i : Bool} {j} : QE Θ X (.Constant (.bool i) j pos) (aC (.bl i)) := q_const pe_bl fun _ => .bl i
theorem q_non {j} : QE Θ X (.Constant .none j pos) (aC .non) := q_const pe_non fun _ => .non
theorem q_str {i : Str} {j} : QE Θ X (.Constant (.str i) j pos) (aC (.str i)) := q_const pe_str fun _ => .str i
theorem q_globI {x : Str} {i : Int} {tk : Tok} (hg : Gl X x) (hm : X.mg x = some (.int i tk)) (hd : (x == ("__debug__" : Str)) = false := by decide) : QE Θ X (.Name x pos) (aC (.int i)) := q_const (pe_glob hg hm (v := .int i) ⟨tk, rfl⟩ hd) fun _ => .int i

/-! ### operators -/
def aOp (a : A2) (t u : AE) : AE := fun ρ κ R => t ρ κ fun d κ1 => u ρ κ1 fun e κ2 => a d e κ2 R
def aUn (a : A1) (t : AE) : AE := fun ρ κ R => t ρ κ fun d κ1 => a d κ1 R
def Op2 (K : Frag) (mg : MG) (r : R2) (a : A2) : Prop := ∀ (w : Wd) (x y : V) (d e : D) (R : D → Cs → Prop) (Q : VK), WOk K mg w → Rp K mg w x d → Rp K mg w y e → a d e w.ce R →
  (∀ d' w' v, R d' w'.ce → To K mg w w' → Rp K mg w' v d' → Q v w'.H) → r x y w.H Q
def Op1 (K : Frag) (mg : MG) (r : V → Hp → VK → Prop) (a : A1) : Prop := ∀ (w : Wd) (x : V) (d : D) (R : D → Cs → Prop) (Q : VK), WOk K mg w → Rp K mg w x d → a d w.ce R →
  (∀ d' w' v, R d' w'.ce → To K mg w w' → Rp K mg w' v d' → Q v w'.H) → r x w.H Q
theorem lift_op {K : Frag} {mg : MG} {r : R2} {f : A2} (h2 : Op2 K mg r f) {σ : L2.St} {H : Hp} {Q : VK} (h : lE K mg (aOp f t u) σ H Q) : tOp r (lE K mg t) (lE K mg u) σ H Q := by
  obtain ⟨w, ρ, R, rfl, ok, st, h, k⟩ := h
  refine ⟨w, ρ, _, rfl, ok, st, h, fun d w1 v1 h1 t1 r1 => ?_⟩
  refine ⟨w1, ρ, _, rfl, t1.ok, st.mono t1.gr, h1, fun e w2 v2 h3 t2 r2 => ?_⟩
  exact h2 w2 v1 v2 d e R Q t2.ok (r1.mono t2.gr) r2 h3 fun d' w' v hR t3 r3 => k d' w' v hR ((t1.trans t2).trans t3) r3
theorem q_op {op : Operator} {r : R2} {f : A2} (ho : OpR X (binaryOp op) r) (h2 : Op2 X.K (X.mgx Θ) r f) (ha : QE Θ X a t) (hb : QE Θ X b u) : QE Θ X (.BinOp a op b pos) (aOp f t u) :=
  (pe_op ho ha hb).imp fun _ _ _ h => lift_op h2 h
theorem q_cmpR {op : CmpOp} {r : R2} {f : A2} (ho : OpR X (compareOp op) r) (h2 : Op2 X.K (X.mgx Θ) r f) (ha : QE Θ X a t) (hb : QE Θ X b u) (hm : behindInMarks op b = false) : QE Θ X (.Compare a [op] [b] pos) (aOp f t u) :=
  (pe_cmpR ho ha hb hm).imp fun _ _ _ h => lift_op h2 h
/-- a value as a test -/
def aTest (t : AE) : AT := fun ρ κ R => t ρ κ fun d κ' => ∃ b, d = .bl b ∧ R b κ'
theorem lift_test {K : Frag} {mg : MG} {te : TE} (f : ∀ σ H Q, lE K mg t σ H Q → te σ H Q) {σ : L2.St} {H : Hp} {Q : Bool → Hp → Prop} (h : lT K mg (aTest t) σ H Q) : tTest te σ H Q := by
  obtain ⟨w, ρ, R, rfl, ok, st, h, k⟩ := h
  refine f _ _ _ ⟨w, ρ, _, rfl, ok, st, h, fun d w1 v1 h1 t1 r1 => ?_⟩
  obtain ⟨b, rfl, hR⟩ := h1
  cases r1
  exact ⟨b, rfl, k b w1 hR t1⟩
theorem qt_cmpR {op : CmpOp} {r : R2} {f : A2} (ho : OpR X (compareOp op) r) (h2 : Op2 X.K (X.mgx Θ) r f) (ha : QE Θ X a t) (hb : QE Θ X b u) (hm : behindInMarks op b = false) : QT Θ X (.Compare a [op] [b] pos) (aTest (aOp f t u)) :=
  (pt_cmpR ho ha hb hm).imp fun _ _ _ h => lift_test (fun _ _ _ h => lift_op h2 h) h
theorem qt_val (h : QE Θ X e t) (he : ∀ whole, isTrue e X.env whole = (do let v ← whole; standAt e.pos; holding [v] (truthy v)) := by intro _; rfl) : QT Θ X e (aTest t) :=
  (pt_val h he).imp fun _ _ _ h => lift_test (fun _ _ _ h => h) h
theorem q_un {op : UnaryOp} {r : V → Hp → VK → Prop} {f : A1} (ho : UnR X (unaryOp op) r) (h1 : Op1 X.K (X.mgx Θ) r f) (ha : QE Θ X a t) : QE Θ X (.UnaryOp op a pos) (aUn f t) := (pe_un ho ha).imp (by
  rintro σ H Q ⟨w, ρ, R, rfl, ok, st, h, k⟩
  refine ⟨w, ρ, _, rfl, ok, st, h, fun d w1 v1 h2 t1 r1 => ?_⟩
  exact h1 w1 v1 d R Q t1.ok r1 h2 fun d' w' v hR t3 r3 => k d' w' v hR (t1.trans t3) r3)
/-- a op1 b op2 c -/
def aChain (f g : A2) (t u s : AE) : AE := fun ρ κ R => t ρ κ fun d κ1 => u ρ κ1 fun e κ2 => f d e κ2 fun z κ3 => ∃ b, z = .bl b ∧ if b = true then s ρ κ3 fun x κ4 => g e x κ4 R else R (.bl false) κ3
theorem lift_chain {K : Frag} {mg : MG} {r r' : R2} {f g : A2} (h2 : Op2 K mg r f) (h2' : Op2 K mg r' g) {σ : L2.St} {H : Hp} {Q : VK} (h : lE K mg (aChain f g t u s) σ H Q) : tChain r r' (lE K mg t) (lE K mg u) (lE K mg s) σ H Q := by
  obtain ⟨w, ρ, R, rfl, ok, st, h, k⟩ := h
  refine ⟨w, ρ, _, rfl, ok, st, h, fun d w1 v1 h1 t1 r1 => ?_⟩
  refine ⟨w1, ρ, _, rfl, t1.ok, st.mono t1.gr, h1, fun e w2 v2 h3 t2 r2 => ?_⟩
  refine h2 w2 v1 v2 d e _ _ t2.ok (r1.mono t2.gr) r2 h3 fun d' w3 v hR t3 r3 => ?_
  obtain ⟨b, rfl, hR⟩ := hR
  cases r3
  refine ⟨b, rfl, ?_⟩
  cases b with
  | false =>
    rw [if_neg Bool.false_ne_true] at hR ⊢
    exact k _ w3 _ hR ((t1.trans t2).trans t3) (.bl false)
  | true =>
    rw [if_pos rfl] at hR ⊢
    refine ⟨w3, ρ, _, rfl, t3.ok, st.mono ((t1.trans t2).trans t3).gr, hR, fun x w4 v4 h4 t4 r4 => ?_⟩
    exact h2' w4 v2 v4 e x R Q t4.ok (r2.mono (t3.trans t4).gr) r4 h4 fun d' w' v hR t5 r5 => k d' w' v hR ((((t1.trans t2).trans t3).trans t4).trans t5) r5
theorem q_chain {op op' : CmpOp} {r r' : R2} {f g : A2} (ho : OpR X (compareOp op) r) (ho' : OpR X (compareOp op') r') (h2 : Op2 X.K (X.mgx Θ) r f) (h2' : Op2 X.K (X.mgx Θ) r' g) (ha : QE Θ X a t) (hb : QE Θ X b u) (hc : QE Θ X c s)
    (hm : lastMarks [op, op'] [b, c] = false := by with_unfolding_all rfl) : QE Θ X (.Compare a [op, op'] [b, c] pos) (aChain f g t u s) := (pe_chain ho ho' ha hb hc hm).imp fun _ _ _ h => lift_chain h2 h2' h
theorem qt_chain {op op' : CmpOp} {r r' : R2} {f g : A2} (ho : OpR X (compareOp op) r) (ho' : OpR X (compareOp op') r') (h2 : Op2 X.K (X.mgx Θ) r f) (h2' : Op2 X.K (X.mgx Θ) r' g) (ha : QE Θ X a t) (hb : QE Θ X b u) (hc : QE Θ X c s)
    (hm : lastMarks [op, op'] [b, c] = false := by with_unfolding_all rfl) : QT Θ X (.Compare a [op, op'] [b, c] pos) (aTest (aChain f g t u s)) := (pt_chain ho ho' ha hb hc hm).imp fun _ _ _ h => lift_test (fun _ _ _ h => lift_chain h2 h2' h) h

/-! ### and, or, not -/
def aAndT (t u : AT) : AT := fun ρ κ R => t ρ κ fun b κ1 => if b = true then u ρ κ1 R else R false κ1
def aOrT (t u : AT) : AT := fun ρ κ R => t ρ κ fun b κ1 => if b = true then R true κ1 else u ρ κ1 R
def aNotT (t : AT) : AT := fun ρ κ R => t ρ κ fun b κ1 => R (!b) κ1
theorem lift_two {K : Frag} {mg : MG} {f : Bool → TT → TT → TT} {σ : L2.St} {H : Hp} {Q : Bool → Hp → Prop} (h : lT K mg (aAndT tt uu) σ H Q) : tAnd (lT K mg tt) (lT K mg uu) σ H Q := by
  obtain ⟨w, ρ, R, rfl, ok, st, h, k⟩ := h
  refine ⟨w, ρ, _, rfl, ok, st, h, fun b w1 h1 t1 => ?_⟩
  cases b with
  | false =>
    rw [if_neg Bool.false_ne_true] at h1 ⊢
    exact k _ w1 h1 t1
  | true =>
    rw [if_pos rfl] at h1 ⊢
    exact ⟨w1, ρ, _, rfl, t1.ok, st.mono t1.gr, h1, fun b w2 h2 t2 => k b w2 h2 (t1.trans t2)⟩
theorem lift_or {K : Frag} {mg : MG} {σ : L2.St} {H : Hp} {Q : Bool → Hp → Prop} (h : lT K mg (aOrT tt uu) σ H Q) : tOr (lT K mg tt) (lT K mg uu) σ H Q := by
  obtain ⟨w, ρ, R, rfl, ok, st, h, k⟩ := h
  refine ⟨w, ρ, _, rfl, ok, st, h, fun b w1 h1 t1 => ?_⟩
  cases b with
  | true =>
    rw [if_pos rfl] at h1 ⊢
    exact k _ w1 h1 t1
  | false =>
    rw [if_neg Bool.false_ne_true] at h1 ⊢
    exact ⟨w1, ρ, _, rfl, t1.ok, st.mono t1.gr, h1, fun b w2 h2 t2 => k b w2 h2 (t1.trans t2)⟩
theorem qw_and1 (ha : QT Θ X a tt) : QW Θ X (.BoolOp .And [a] pos) tt := pw_and1 ha
theorem qw_or1 (ha : QT Θ X a tt) : QW Θ X (.BoolOp .Or [a] pos) tt := pw_or1 ha
theorem qw_and (ha : QT Θ X a tt) (hb : QW Θ X (.BoolOp .And (b :: es) pos) uu) : QW Θ X (.BoolOp .And (a :: b :: es) pos) (aAndT tt uu) := (pw_and ha hb).imp fun _ _ _ h => lift_two (f := fun _ t _ => t) h
theorem qw_or (ha : QT Θ X a tt) (hb : QW Θ X (.BoolOp .Or (b :: es) pos) uu) : QW Θ X (.BoolOp .Or (a :: b :: es) pos) (aOrT tt uu) := (pw_or ha hb).imp fun _ _ _ h => lift_or h
theorem qt_not (ha : QT Θ X a tt) : QT Θ X (.UnaryOp .Not a pos) (aNotT tt) := (pt_not ha).imp (by
  rintro σ H Q ⟨w, ρ, R, rfl, ok, st, h, k⟩
  exact ⟨w, ρ, _, rfl, ok, st, h, fun b w1 h1 t1 => k _ w1 h1 t1⟩)
def aAndV (t u : AE) : AE := fun ρ κ R => t ρ κ fun d κ1 => ∃ b, d = .bl b ∧ if b = true then u ρ κ1 R else R (.bl false) κ1
def aOrV (t u : AE) : AE := fun ρ κ R => t ρ κ fun d κ1 => ∃ b, d = .bl b ∧ if b = true then R (.bl true) κ1 else u ρ κ1 R
def aNotV (t : AE) : AE := fun ρ κ R => t ρ κ fun d κ1 => ∃ b, d = .bl b ∧ R (.bl (!b)) κ1
theorem q_and1 (h : QE Θ X a t) : QE Θ X (.BoolOp .And [a] pos) t := pe_one h
theorem q_or1 (h : QE Θ X a t) : QE Θ X (.BoolOp .Or [a] pos) t := pe_one h
theorem q_and (ha : QE Θ X a t) (hb : QE Θ X (.BoolOp .And (b :: es) pos) u) : QE Θ X (.BoolOp .And (a :: b :: es) pos) (aAndV t u) := (pe_and ha hb).imp (by
  rintro σ H Q ⟨w, ρ, R, rfl, ok, st, h, k⟩
  refine ⟨w, ρ, _, rfl, ok, st, h, fun d w1 v1 h1 t1 r1 => ?_⟩
  obtain ⟨b, rfl, h1⟩ := h1
  cases r1
  refine ⟨b, rfl, ?_⟩
  cases b with
  | false =>
    rw [if_neg Bool.false_ne_true] at h1 ⊢
    exact k _ w1 _ h1 t1 (.bl false)
  | true =>
    rw [if_pos rfl] at h1 ⊢
    exact ⟨w1, ρ, _, rfl, t1.ok, st.mono t1.gr, h1, fun d w2 v2 h2 t2 r2 => k d w2 v2 h2 (t1.trans t2) r2⟩)
theorem q_or (ha : QE Θ X a t) (hb : QE Θ X (.BoolOp .Or (b :: es) pos) u) : QE Θ X (.BoolOp .Or (a :: b :: es) pos) (aOrV t u) := (pe_or ha hb).imp (by
  rintro σ H Q ⟨w, ρ, R, rfl, ok, st, h, k⟩
  refine ⟨w, ρ, _, rfl, ok, st, h, fun d w1 v1 h1 t1 r1 => ?_⟩
  obtain ⟨b, rfl, h1⟩ := h1
  cases r1
  refine ⟨b, rfl, ?_⟩
  cases b with
  | true =>
    rw [if_pos rfl] at h1 ⊢
    exact k _ w1 _ h1 t1 (.bl true)
  | false =>
    rw [if_neg Bool.false_ne_true] at h1 ⊢
    exact ⟨w1, ρ, _, rfl, t1.ok, st.mono t1.gr, h1, fun d w2 v2 h2 t2 r2 => k d w2 v2 h2 (t1.trans t2) r2⟩)
theorem q_not (ha : QE Θ X a t) : QE Θ X (.UnaryOp .Not a pos) (aNotV t) := (pe_not ha).imp (by
  rintro σ H Q ⟨w, ρ, R, rfl, ok, st, h, k⟩
  refine ⟨w, ρ, _, rfl, ok, st, h, fun d w1 v1 h1 t1 r1 => ?_⟩
  obtain ⟨b, rfl, h1⟩ := h1
  cases r1
  exact ⟨b, rfl, k _ w1 _ h1 t1 (.bl _)⟩)
def aIf (tt : AT) (t u : AE) : AE := fun ρ κ R => tt ρ κ fun b κ1 => if b = true then t ρ κ1 R else u ρ κ1 R
theorem q_ifExp (hc : QT Θ X c tt) (ha : QE Θ X a t) (hb : QE Θ X b u) : QE Θ X (.IfExp c a b pos) (aIf tt t u) := (pe_ifExp hc ha hb).imp (by
  rintro σ H Q ⟨w, ρ, R, rfl, ok, st, h, k⟩
  refine ⟨w, ρ, _, rfl, ok, st, h, fun b w1 h1 t1 => ?_⟩
  cases b with
  | true =>
    rw [if_pos rfl] at h1 ⊢
    exact ⟨w1, ρ, _, rfl, t1.ok, st.mono t1.gr, h1, fun d w2 v2 h2 t2 r2 => k d w2 v2 h2 (t1.trans t2) r2⟩
  | false =>
    rw [if_neg Bool.false_ne_true] at h1 ⊢
    exact ⟨w1, ρ, _, rfl, t1.ok, st.mono t1.gr, h1, fun d w2 v2 h2 t2 r2 => k d w2 v2 h2 (t1.trans t2) r2⟩)

/-! ### arguments, displays -/
def aNil : AA := fun _ κ R => R [] κ
def aCons (t : AE) (ta : AA) : AA := fun ρ κ R => t ρ κ fun d κ1 => ta ρ κ1 fun ds κ2 => R (d :: ds) κ2
theorem qa_nil : QA Θ X [] aNil := pa_nil.imp (by
  rintro σ H Q ⟨w, ρ, R, rfl, ok, st, h, k⟩
  exact k [] w [] h (.refl ok) .nil)
theorem qa_cons (ha : QE Θ X e t) (hr : QA Θ X es ta) (hs : starEach (e :: es) X.env = (false, eval e X.env) :: starEach es X.env := by rfl) : QA Θ X (e :: es) (aCons t ta) := (pa_cons ha hr hs).imp (by
  rintro σ H Q ⟨w, ρ, R, rfl, ok, st, h, k⟩
  refine ⟨w, ρ, _, rfl, ok, st, h, fun d w1 v1 h1 t1 r1 => ?_⟩
  refine ⟨w1, ρ, _, rfl, t1.ok, st.mono t1.gr, h1, fun ds w2 vs h2 t2 r2 => ?_⟩
  exact k _ w2 _ h2 (t1.trans t2) (.cons (r1.mono t2.gr) r2))
theorem sz {n : Nat} (h : n ≤ 16777216) : n ≤ sizeLine := by rw [sizeLine_eq]; exact h
def aTup (ta : AA) : AE := fun ρ κ R => ta ρ κ fun ds κ' => ds.length ≤ 16777216 ∧ R (.tup ds) κ'
def aLst (ta : AA) : AA := fun ρ κ R => ta ρ κ fun ds κ' => ds.length ≤ 16777216 ∧ R ds κ'
theorem q_tup {x1} (h : QA Θ X es ta) : QE Θ X (.Tuple es x1 pos) (aTup ta) := (pe_tup h).imp (by
  rintro σ H Q ⟨w, ρ, R, rfl, ok, st, h, k⟩
  refine ⟨w, ρ, _, rfl, ok, st, h, fun ds w1 vs h1 t1 r1 => ?_⟩
  refine ⟨sz (by rw [r1.length]; exact h1.1), fun p hp => ?_⟩
  have t2 := to_put (K := X.K) (mg := (X.mgx Θ)) (o := .tup vs) t1.ok hp
  exact k (.tup ds) (w1.put p (.tup vs)) _ h1.2 (t1.trans t2) (.tup (.inl (.inl upd_same)) (r1.mono t2.gr)))
theorem q_lst (h : QA Θ X es ta) : QL Θ X (.List es pos) (aLst ta) := (pe_lst h).imp (by
  rintro σ H Q ⟨w, ρ, R, rfl, ok, st, h, k⟩
  refine ⟨w, ρ, _, rfl, ok, st, h, fun ds w1 vs h1 t1 r1 => ?_⟩
  exact ⟨sz (by rw [r1.length]; exact h1.1), fun p hp => new_list t1 r1 h1.2 hp k⟩)
end
end PD
set_option Elab.async false
set_option linter.all false
set_option maxRecDepth 100000
set_option maxHeartbeats 4000000
/-! PD, part 4: the operators, built-in functions, attributes, calls at the level of data. -/
namespace PD
open PySem PySem.Spec PyProof.Rows L2

/-! ### a union of rules -/
theorem _root_.L2.OpR.or3 {X : Cx} {f : Value → Value → Sem Value} {r r' r'' : R2} (h : OpR X f r) (h' : OpR X f r') (h'' : OpR X f r'') : OpR X f (fun x y H Q => r x y H Q ∨ r' x y H Q ∨ r'' x y H Q) := h.or (h'.or h'')

section
variable {K : Frag} {mg : MG} {w : Wd} {v : V} {d : D}
theorem rp_int {i : Int} (r : Rp K mg w v (.int i)) : v = .int i := by cases r; rfl
theorem rp_tup {ds : List D} (r : Rp K mg w v (.tup ds)) : ∃ a xs, v = .ref a ∧ SqT K w.H a xs ∧ Rps K mg w xs ds := by
  cases r with
  | tup h1 h2 => exact ⟨_, _, rfl, h1, h2⟩
/-- a list, or the script -/
def seqOf (κ : Cs) : D → Option (List D)
  | .scr ns => some (ns.map D.int)
  | d => lstOf κ d
theorem seqOf_at {ds : List D} (ok : WOk K mg w) (r : Rp K mg w v d) (h : seqOf w.ce d = some ds) : ∃ a xs, v = .ref a ∧ SqL K w.H a xs ∧ Rps K mg w xs ds := by
  cases d with
  | scr ns =>
    cases h
    cases r with
    | scr h1 =>
      rcases h1 with h1 | ⟨h1, _⟩
      · exact ⟨_, _, rfl, h1.sqL, Rps.ints ns⟩
      · exact ⟨_, _, rfl, .of h1, Rps.ints ns⟩
  | lst es =>
    obtain ⟨a, xs, e1, e2, e3⟩ := lstOf_at (d := .lst es) ok r h
    exact ⟨a, xs, e1, .of e2, e3⟩
  | cell k =>
    obtain ⟨a, xs, e1, e2, e3⟩ := lstOf_at (d := .cell k) ok r h
    exact ⟨a, xs, e1, .of e2, e3⟩
  | _ => cases h
theorem atI_rps {ds : List D} {xs : List V} {i : Int} {x : D} (r : Rps K mg w xs ds) (h : atI ds i = some x) : ∃ v, atI xs i = some v ∧ Rp K mg w v x := by
  unfold atI at h ⊢
  rw [r.length]
  cases q : ixN ds.length i with
  | none =>
    rw [q] at h
    cases h
  | some j =>
    rw [q] at h
    obtain ⟨v, e, r'⟩ := r.get (show ds[j]? = some x from h)
    exact ⟨v, e, r'⟩
end

/-! ### + - * // % ** -/
def dAdd : A2 := fun d e κ R => match d, e with
  | .int i, .int j => R (.int (i + j)) κ
  | .tup xs, .tup ys => xs.length + ys.length ≤ 16777216 ∧ R (.tup (xs ++ ys)) κ
  | d, e => ∃ xs ys, lstOf κ d = some xs ∧ lstOf κ e = some ys ∧ xs.length + ys.length ≤ 16777216 ∧ R (.lst (xs ++ ys)) κ
abbrev rAddA (K : Frag) : R2 := fun x y H Q => rI0 (fun i j => V.int (i + j)) x y H Q ∨ rCat x y H Q ∨ rCatA K x y H Q
theorem or_add {X : Cx} : OpR X (binaryOp .Add) (rAddA X.K) := op_add.or3 op_cat op_catA
theorem lst_new {K : Frag} {mg : MG} {w : Wd} {p : Addr} {xs : List V} {ds : List D} (ok : WOk K mg w) (hp : w.H p = none) (r : Rps K mg w xs ds) : To K mg w (w.put p (.lst xs)) ∧ Rp K mg (w.put p (.lst xs)) (.ref p) (.lst ds) :=
  ⟨to_put ok hp, .lst upd_same (fun q => ok.new hp q) (r.mono (gr_put hp))⟩
theorem tup_new {K : Frag} {mg : MG} {w : Wd} {p : Addr} {xs : List V} {ds : List D} (ok : WOk K mg w) (hp : w.H p = none) (r : Rps K mg w xs ds) : To K mg w (w.put p (.tup xs)) ∧ Rp K mg (w.put p (.tup xs)) (.ref p) (.tup ds) :=
  ⟨to_put ok hp, .tup (.inl (.inl upd_same)) (r.mono (gr_put hp))⟩
theorem op2_add_lst {K : Frag} {mg : MG} {w : Wd} {x y : V} {d e : D} {R : D → Cs → Prop} {Q : VK} (ok : WOk K mg w) (rx : Rp K mg w x d) (ry : Rp K mg w y e)
    (h : ∃ xs ys, lstOf w.ce d = some xs ∧ lstOf w.ce e = some ys ∧ xs.length + ys.length ≤ 16777216 ∧ R (.lst (xs ++ ys)) w.ce)
    (k : ∀ d' w' v, R d' w'.ce → To K mg w w' → Rp K mg w' v d' → Q v w'.H) : rCat x y w.H Q := by
  obtain ⟨xs, ys, e1, e2, hz, h⟩ := h
  obtain ⟨a, us, rfl, ha, ra⟩ := lstOf_at ok rx e1
  obtain ⟨b, vs, rfl, hb, rb⟩ := lstOf_at ok ry e2
  refine ⟨a, b, us, vs, rfl, rfl, ha, hb, sz (by rw [ra.length, rb.length]; exact hz), fun p hp => ?_⟩
  obtain ⟨t, r⟩ := lst_new ok hp (ra.append rb)
  exact k _ (w.put p _) _ h t r
theorem op2_add {K : Frag} {mg : MG} : Op2 K mg (rAddA K) dAdd := by
  intro w x y d e R Q ok rx ry h k
  unfold dAdd at h
  split at h
  · cases rx
    cases ry
    exact .inl ⟨_, _, rfl, rfl, k _ w _ h (.refl ok) (.int _)⟩
  · rename_i xs ys
    obtain ⟨a, us, rfl, ha, ra⟩ := rp_tup rx
    obtain ⟨b, vs, rfl, hb, rb⟩ := rp_tup ry
    refine .inr (.inr ⟨a, b, us, vs, rfl, rfl, ha, hb, sz (by rw [ra.length, rb.length]; exact h.1), fun z => ?_, fun _ z => ?_, fun _ _ p hp => ?_⟩)
    · subst z
      cases ra
      exact k _ w _ h.2 (.refl ok) ry
    · subst z
      cases rb
      refine k _ w _ h.2 (.refl ok) ?_
      rw [List.append_nil]
      exact rx
    · obtain ⟨t, r⟩ := tup_new ok hp (ra.append rb)
      exact k _ (w.put p _) _ h.2 t r
  · exact .inr (.inl (op2_add_lst ok rx ry h k))
theorem q_add {X : Cx} {a b : Expr} {t u : AE} {pos : Pos} (ha : QE Θ X a t) (hb : QE Θ X b u) : QE Θ X (.BinOp a .Add b pos) (aOp dAdd t u) := q_op or_add op2_add ha hb

def dII (C : Int → Int → Prop) (g : Int → Int → D) : A2 := fun d e κ R => match d, e with
  | .int i, .int j => C i j ∧ R (g i j) κ
  | _, _ => False
theorem op2_ii {K : Frag} {mg : MG} {C : Int → Int → Prop} {g : Int → Int → V} {g' : Int → Int → D} (hg : ∀ w i j, Rp K mg w (g i j) (g' i j)) : Op2 K mg (rI C g) (dII C g') := by
  intro w x y d e R Q ok rx ry h k
  unfold dII at h
  split at h
  · cases rx
    cases ry
    exact ⟨_, _, rfl, rfl, h.1, k _ w _ h.2 (.refl ok) (hg w _ _)⟩
  · exact h.elim
theorem op2_ii0 {K : Frag} {mg : MG} {g : Int → Int → V} {g' : Int → Int → D} (hg : ∀ w i j, Rp K mg w (g i j) (g' i j)) : Op2 K mg (rI0 g) (dII (fun _ _ => True) g') := by
  intro w x y d e R Q ok rx ry h k
  obtain ⟨i, j, e1, e2, _, q⟩ := op2_ii (C := fun _ _ => True) hg w x y d e R Q ok rx ry h k
  exact ⟨i, j, e1, e2, q⟩
abbrev dSub : A2 := dII (fun _ _ => True) fun i j => .int (i - j)
abbrev dDiv : A2 := dII CDivW fun i j => .int (i / j)
abbrev dMod : A2 := dII (fun _ j => 0 < j) fun i j => .int (i % j)
abbrev dPow : A2 := dII CPow fun i j => .int (i ^ j.toNat)
def dMul : A2 := fun d e κ R => match d, e with
  | .int i, .int j => (CMul i j ∨ CMulW i j) ∧ R (.int (i * j)) κ
  | d, .int k => ∃ xs, lstOf κ d = some xs ∧ -1000000 ≤ k ∧ k ≤ 1000000 ∧ xs.length * k.toNat ≤ 16777216 ∧ R (.lst (List.replicate k.toNat xs).flatten) κ
  | _, _ => False
abbrev rMulA : R2 := fun x y H Q => rI CMul (fun i j => V.int (i * j)) x y H Q ∨ rI CMulW (fun i j => V.int (i * j)) x y H Q ∨ rRep x y H Q
theorem op2_mul {K : Frag} {mg : MG} : Op2 K mg rMulA dMul := by
  intro w x y d e R Q ok rx ry h k
  unfold dMul at h
  split at h
  · cases rx
    cases ry
    rcases h.1 with c | c
    · exact .inl ⟨_, _, rfl, rfl, c, k _ w _ h.2 (.refl ok) (.int _)⟩
    · exact .inr (.inl ⟨_, _, rfl, rfl, c, k _ w _ h.2 (.refl ok) (.int _)⟩)
  · obtain ⟨xs, e1, h1, h2, hz, h⟩ := h
    obtain ⟨a, us, rfl, ha, ra⟩ := lstOf_at ok rx e1
    cases ry
    refine .inr (.inr ⟨a, _, us, rfl, rfl, ha, by omega, by omega, sz (by rw [ra.length]; exact hz), fun p hp => ?_⟩)
    obtain ⟨t, r⟩ := lst_new ok hp (ra.rep _)
    exact k _ (w.put p _) _ h t r
  · exact h.elim
section
variable {X : Cx} {a b : Expr} {t u : AE} {pos : Pos}
theorem q_sub (ha : QE Θ X a t) (hb : QE Θ X b u) : QE Θ X (.BinOp a .Sub b pos) (aOp dSub t u) := q_op op_sub (op2_ii0 fun _ _ _ => .int _) ha hb
theorem q_mul (ha : QE Θ X a t) (hb : QE Θ X b u) : QE Θ X (.BinOp a .Mult b pos) (aOp dMul t u) := q_op (op_mul.or3 op_mulW op_rep) op2_mul ha hb
theorem q_div (ha : QE Θ X a t) (hb : QE Θ X b u) : QE Θ X (.BinOp a .FloorDiv b pos) (aOp dDiv t u) := q_op op_fdivW (op2_ii fun _ _ _ => .int _) ha hb
theorem q_mod (ha : QE Θ X a t) (hb : QE Θ X b u) : QE Θ X (.BinOp a .Mod b pos) (aOp dMod t u) := q_op op_mod (op2_ii fun _ _ _ => .int _) ha hb
theorem q_pow (ha : QE Θ X a t) (hb : QE Θ X b u) : QE Θ X (.BinOp a .Pow b pos) (aOp dPow t u) := q_op op_pow (op2_ii fun _ _ _ => .int _) ha hb
def dNeg : A1 := fun d κ R => match d with
  | .int i => R (.int (-i)) κ
  | _ => False
theorem q_neg (ha : QE Θ X a t) : QE Θ X (.UnaryOp .USub a pos) (aUn dNeg t) := q_un un_neg (by
  intro w x d R Q ok rx h k
  unfold dNeg at h
  split at h
  · cases rx
    exact ⟨_, rfl, k _ w _ h (.refl ok) (.int _)⟩
  · exact h.elim) ha

/-! ### comparisons -/
abbrev dLt : A2 := dII (fun _ _ => True) fun i j => .bl (decide (i < j))
abbrev dLe : A2 := dII (fun _ _ => True) fun i j => .bl (decide (i ≤ j))
abbrev dGt : A2 := dII (fun _ _ => True) fun i j => .bl (decide (j < i))
abbrev dGe : A2 := dII (fun _ _ => True) fun i j => .bl (decide (j ≤ i))
theorem o2_lt {K : Frag} {mg : MG} : Op2 K mg (rI0 fun i j => .bl (decide (i < j))) dLt := op2_ii0 fun _ _ _ => .bl _
theorem o2_le {K : Frag} {mg : MG} : Op2 K mg (rI0 fun i j => .bl (decide (i ≤ j))) dLe := op2_ii0 fun _ _ _ => .bl _
theorem o2_gt {K : Frag} {mg : MG} : Op2 K mg (rI0 fun i j => .bl (decide (j < i))) dGt := op2_ii0 fun _ _ _ => .bl _
theorem o2_ge {K : Frag} {mg : MG} : Op2 K mg (rI0 fun i j => .bl (decide (j ≤ i))) dGe := op2_ii0 fun _ _ _ => .bl _
theorem q_lt (ha : QE Θ X a t) (hb : QE Θ X b u) : QE Θ X (.Compare a [.Lt] [b] pos) (aOp dLt t u) := q_cmpR op_lt o2_lt ha hb (nomark _)
theorem q_le (ha : QE Θ X a t) (hb : QE Θ X b u) : QE Θ X (.Compare a [.LtE] [b] pos) (aOp dLe t u) := q_cmpR op_le o2_le ha hb (nomark _)
theorem q_gt (ha : QE Θ X a t) (hb : QE Θ X b u) : QE Θ X (.Compare a [.Gt] [b] pos) (aOp dGt t u) := q_cmpR op_gt o2_gt ha hb (nomark _)
theorem q_ge (ha : QE Θ X a t) (hb : QE Θ X b u) : QE Θ X (.Compare a [.GtE] [b] pos) (aOp dGe t u) := q_cmpR op_ge o2_ge ha hb (nomark _)
theorem qt_lt (ha : QE Θ X a t) (hb : QE Θ X b u) : QT Θ X (.Compare a [.Lt] [b] pos) (aTest (aOp dLt t u)) := qt_cmpR op_lt o2_lt ha hb (nomark _)
theorem qt_le (ha : QE Θ X a t) (hb : QE Θ X b u) : QT Θ X (.Compare a [.LtE] [b] pos) (aTest (aOp dLe t u)) := qt_cmpR op_le o2_le ha hb (nomark _)
theorem qt_gt (ha : QE Θ X a t) (hb : QE Θ X b u) : QT Θ X (.Compare a [.Gt] [b] pos) (aTest (aOp dGt t u)) := qt_cmpR op_gt o2_gt ha hb (nomark _)
theorem qt_ge (ha : QE Θ X a t) (hb : QE Θ X b u) : QT Θ X (.Compare a [.GtE] [b] pos) (aTest (aOp dGe t u)) := qt_cmpR op_ge o2_ge ha hb (nomark _)
end

/-- None or not -/
def isNon : D → Bool
  | .non => true
  | _ => false
theorem rp_non {K : Frag} {mg : MG} {w : Wd} {v : V} {d : D} (r : Rp K mg w v d) : decide (v = .non) = isNon d := by
  cases r with
  | opq z => exact decide_eq_false z
  | _ => first | rfl | exact decide_eq_false (fun z => by cases z)
def dIsN : A2 := fun d e κ R => isNon e = true ∧ R (.bl (isNon d)) κ
def dNotN : A2 := fun d e κ R => isNon e = true ∧ R (.bl (!isNon d)) κ
theorem o2_isN {K : Frag} {mg : MG} : Op2 K mg (fun x y H Q => y = .non ∧ Q (.bl (decide (x = .non))) H) dIsN := by
  intro w x y d e R Q ok rx ry h k
  refine ⟨of_decide_eq_true ((rp_non ry).trans h.1), ?_⟩
  rw [rp_non rx]
  exact k _ w _ h.2 (.refl ok) (.bl _)
theorem o2_notN {K : Frag} {mg : MG} : Op2 K mg (fun x y H Q => y = .non ∧ Q (.bl (!decide (x = .non))) H) dNotN := by
  intro w x y d e R Q ok rx ry h k
  refine ⟨of_decide_eq_true ((rp_non ry).trans h.1), ?_⟩
  rw [rp_non rx]
  exact k _ w _ h.2 (.refl ok) (.bl _)
section
variable {X : Cx} {a b : Expr} {t u : AE} {pos : Pos}
theorem q_isN (ha : QE Θ X a t) (hb : QE Θ X b u) : QE Θ X (.Compare a [.Is] [b] pos) (aOp dIsN t u) := q_cmpR op_isN o2_isN ha hb (nomark _)
theorem q_notN (ha : QE Θ X a t) (hb : QE Θ X b u) : QE Θ X (.Compare a [.IsNot] [b] pos) (aOp dNotN t u) := q_cmpR op_notN o2_notN ha hb (nomark _)
theorem qt_isN (ha : QE Θ X a t) (hb : QE Θ X b u) : QT Θ X (.Compare a [.Is] [b] pos) (aTest (aOp dIsN t u)) := qt_cmpR op_isN o2_isN ha hb (nomark _)
theorem qt_notN (ha : QE Θ X a t) (hb : QE Θ X b u) : QT Θ X (.Compare a [.IsNot] [b] pos) (aTest (aOp dNotN t u)) := qt_cmpR op_notN o2_notN ha hb (nomark _)
end

/-! ### equality of data at any depth -/
mutual
def pyOf : D → PyData
  | .non => .none
  | .bl b => .bool b
  | .int i => .int i
  | .str x => .str x
  | .lst ds => .list (pysOf ds)
  | .tup ds => .tuple (pysOf ds)
  | _ => .none
def pysOf : List D → List PyData
  | [] => []
  | d :: ds => pyOf d :: pysOf ds
end
mutual
/-- no object, no cell, no type within -/
def plain : D → Bool
  | .non => true
  | .bl _ => true
  | .int _ => true
  | .str x => PyData.strOk x
  | .lst ds => plains ds
  | .tup ds => plains ds
  | _ => false
def plains : List D → Bool
  | [] => true
  | d :: ds => plain d && plains ds
end
mutual
def dep : D → Nat
  | .lst ds => deps ds + 1
  | .tup ds => deps ds + 1
  | _ => 0
def deps : List D → Nat
  | [] => 0
  | d :: ds => max (dep d) (deps ds)
end
/-- a cell's list, as a list -/
def view (κ : Cs) (d : D) : D := match lstOf κ d with
  | some ds => .lst ds
  | none => d
mutual
theorem dp_of {K : Frag} {mg : MG} {w : Wd} : ∀ (d : D) (v : V), plain d = true → Rp K mg w v d → Dp K w.H v (pyOf d)
  | .non, _, _, r => by cases r; exact .non
  | .bl _, _, _, r => by cases r; exact .bl _
  | .int _, _, _, r => by cases r; exact .int _
  | .str _, _, _, r => by cases r; exact .str _
  | .lst ds, _, p, r => by
    cases r with
    | lst h1 h2 h3 => exact .lst (.of h1) (dps_of ds _ p h3)
  | .tup ds, _, p, r => by
    cases r with
    | tup h1 h3 => exact .tup h1 (dps_of ds _ p h3)
  | .scr _, _, p, _ => absurd p (by simp [plain])
  | .obj _ _, _, p, _ => absurd p (by simp [plain])
  | .cell _, _, p, _ => absurd p (by simp [plain])
  | .ty _, _, p, _ => absurd p (by simp [plain])
  | .fn _, _, p, _ => absurd p (by simp [plain])
theorem dps_of {K : Frag} {mg : MG} {w : Wd} : ∀ (ds : List D) (vs : List V), plains ds = true → Rps K mg w vs ds → DpAll K w.H vs (pysOf ds)
  | [], _, _, r => by cases r; exact .nil
  | d :: ds, _, p, r => by
    cases r with
    | cons h1 h2 =>
      have q : plain d = true ∧ plains ds = true := by simpa [plains] using p
      exact .cons (dp_of d _ q.1 h1) (dps_of ds _ q.2 h2)
end
theorem dp_view {K : Frag} {mg : MG} {w : Wd} {v : V} {d : D} (ok : WOk K mg w) (r : Rp K mg w v d) (p : plain (view w.ce d) = true) : Dp K w.H v (pyOf (view w.ce d)) := by
  unfold view at p ⊢
  cases q : lstOf w.ce d with
  | none =>
    rw [q] at p
    exact dp_of d v p r
  | some ds =>
    rw [q] at p
    obtain ⟨a, xs, rfl, h1, h2⟩ := lstOf_at ok r q
    exact .lst (.of h1) (dps_of ds xs p h2)
mutual
theorem lay_of : ∀ d : D, plain d = true → (pyOf d).canLay0 = true
  | .non, _ => rfl
  | .bl _, _ => rfl
  | .int _, _ => rfl
  | .str x, p => by
    show PyData.canLay0 (.str x) = true
    rw [PyData.canLay0]
    exact p
  | .lst ds, p => by
    show PyData.canLay0 (.list (pysOf ds)) = true
    rw [PyData.canLay0]
    exact lays_of ds p
  | .tup ds, p => by
    show PyData.canLay0 (.tuple (pysOf ds)) = true
    rw [PyData.canLay0]
    exact lays_of ds p
  | .scr _, _ => rfl
  | .obj _ _, _ => rfl
  | .cell _, _ => rfl
  | .ty _, _ => rfl
  | .fn _, _ => rfl
theorem lays_of : ∀ ds : List D, plains ds = true → PyData.canLayAll0 (pysOf ds) = true
  | [], _ => by simp [pysOf, PyData.canLayAll0]
  | d :: ds, p => by
    have q : plain d = true ∧ plains ds = true := by simpa [plains] using p
    show PyData.canLayAll0 (pyOf d :: pysOf ds) = true
    rw [PyData.canLayAll0, lay_of d q.1, lays_of ds q.2]
    rfl
end
mutual
theorem depth_of : ∀ d : D, (pyOf d).depth ≤ dep d
  | .non => Nat.le_refl _
  | .bl _ => Nat.le_refl _
  | .int _ => Nat.le_refl _
  | .str _ => Nat.le_refl _
  | .lst ds => by
    show PyData.depth (.list (pysOf ds)) ≤ deps ds + 1
    rw [PyData.depth]
    exact Nat.succ_le_succ (depths_of ds)
  | .tup ds => by
    show PyData.depth (.tuple (pysOf ds)) ≤ deps ds + 1
    rw [PyData.depth]
    exact Nat.succ_le_succ (depths_of ds)
  | .scr _ => Nat.le_refl _
  | .obj _ _ => Nat.le_refl _
  | .cell _ => Nat.le_refl _
  | .ty _ => Nat.le_refl _
  | .fn _ => Nat.le_refl _
  | .opq => Nat.le_refl _
theorem depths_of : ∀ ds : List D, PyData.depthAll (pysOf ds) ≤ deps ds
  | [] => Nat.le_refl _
  | d :: ds => by
    show PyData.depthAll (pyOf d :: pysOf ds) ≤ max (dep d) (deps ds)
    rw [PyData.depthAll]
    have h1 := depth_of d
    have h2 := depths_of ds
    omega
end
theorem shaped_of {d : D} (p : plain d = true) (h : dep d ≤ 60) : SeqAt.shaped (pyOf d) = true := by
  unfold SeqAt.shaped
  rw [lay_of d p, decide_eq_true (show (pyOf d).depth ≤ 64 from Nat.le_trans (depth_of d) (Nat.le_trans h (by decide)))]
  rfl
/-- == -/
def eqD (d e : D) : Bool := PyData.eqv (pyOf d) (pyOf e)
def okD (d : D) : Prop := plain d = true ∧ dep d ≤ 60
def dEq : A2 := fun d e κ R => match d, e with
  | .int i, .int j => R (.bl (decide (i = j))) κ
  | .str i, .str j => R (.bl (decide (i = j))) κ
  | .bl i, .bl j => R (.bl (decide (i = j))) κ
  | d, e => okD (view κ d) ∧ okD (view κ e) ∧ R (.bl (eqD (view κ d) (view κ e))) κ
def dNe : A2 := fun d e κ R => match d, e with
  | .int i, .int j => R (.bl (!decide (i = j))) κ
  | .str i, .str j => R (.bl (!decide (i = j))) κ
  | .bl i, .bl j => R (.bl (!decide (i = j))) κ
  | d, e => okD (view κ d) ∧ okD (view κ e) ∧ R (.bl (!eqD (view κ d) (view κ e))) κ
theorem o2_eq {K : Frag} {mg : MG} : Op2 K mg (fun x y H Q => rEq x y H Q ∨ rEqD K x y H Q) dEq := by
  intro w x y d e R Q ok rx ry h k
  unfold dEq at h
  split at h
  · cases rx
    cases ry
    refine .inl ⟨rfl, ?_⟩
    rw [show ∀ i j : Int, decide (V.int i = V.int j) = decide (i = j) from fun i j => by rw [dec_int]; exact Bool.beq_eq_decide_eq i j]
    exact k _ w _ h (.refl ok) (.bl _)
  · cases rx
    cases ry
    refine .inl ⟨rfl, ?_⟩
    rw [show ∀ i j : Str, decide (V.str i = V.str j) = decide (i = j) from fun i j => by rw [dec_str]; exact Bool.beq_eq_decide_eq i j]
    exact k _ w _ h (.refl ok) (.bl _)
  · cases rx
    cases ry
    refine .inl ⟨rfl, ?_⟩
    rw [show ∀ i j : Bool, decide (V.bl i = V.bl j) = decide (i = j) from fun i j => by rw [dec_bl]; exact Bool.beq_eq_decide_eq i j]
    exact k _ w _ h (.refl ok) (.bl _)
  · obtain ⟨h1, h2, h⟩ := h
    exact .inr ⟨_, _, dp_view ok rx h1.1, dp_view ok ry h2.1, shaped_of h1.1 h1.2, shaped_of h2.1 h2.2, k _ w _ h (.refl ok) (.bl _)⟩
theorem o2_ne {K : Frag} {mg : MG} : Op2 K mg (fun x y H Q => rNe x y H Q ∨ rNeD K x y H Q) dNe := by
  intro w x y d e R Q ok rx ry h k
  unfold dNe at h
  split at h
  · cases rx
    cases ry
    refine .inl ⟨rfl, ?_⟩
    rw [show ∀ i j : Int, decide (V.int i = V.int j) = decide (i = j) from fun i j => by rw [dec_int]; exact Bool.beq_eq_decide_eq i j]
    exact k _ w _ h (.refl ok) (.bl _)
  · cases rx
    cases ry
    refine .inl ⟨rfl, ?_⟩
    rw [show ∀ i j : Str, decide (V.str i = V.str j) = decide (i = j) from fun i j => by rw [dec_str]; exact Bool.beq_eq_decide_eq i j]
    exact k _ w _ h (.refl ok) (.bl _)
  · cases rx
    cases ry
    refine .inl ⟨rfl, ?_⟩
    rw [show ∀ i j : Bool, decide (V.bl i = V.bl j) = decide (i = j) from fun i j => by rw [dec_bl]; exact Bool.beq_eq_decide_eq i j]
    exact k _ w _ h (.refl ok) (.bl _)
  · obtain ⟨h1, h2, h⟩ := h
    exact .inr ⟨_, _, dp_view ok rx h1.1, dp_view ok ry h2.1, shaped_of h1.1 h1.2, shaped_of h2.1 h2.2, k _ w _ h (.refl ok) (.bl _)⟩
section
variable {X : Cx} {a b c : Expr} {t u s : AE} {pos : Pos} {k : Nat}
theorem q_eq (hr : Room k X.A) (ha : QE Θ X a t) (hb : QE Θ X b u) : QE Θ X (.Compare a [.Eq] [b] pos) (aOp dEq t u) := q_cmpR (op_eq.or (op_eqD hr.units)) o2_eq ha hb (nomark _)
theorem q_ne (hr : Room k X.A) (ha : QE Θ X a t) (hb : QE Θ X b u) : QE Θ X (.Compare a [.NotEq] [b] pos) (aOp dNe t u) := q_cmpR (op_ne.or (op_neD hr.units)) o2_ne ha hb (nomark _)
theorem qt_eq (hr : Room k X.A) (ha : QE Θ X a t) (hb : QE Θ X b u) : QT Θ X (.Compare a [.Eq] [b] pos) (aTest (aOp dEq t u)) := qt_cmpR (op_eq.or (op_eqD hr.units)) o2_eq ha hb (nomark _)
theorem qt_ne (hr : Room k X.A) (ha : QE Θ X a t) (hb : QE Θ X b u) : QT Θ X (.Compare a [.NotEq] [b] pos) (aTest (aOp dNe t u)) := qt_cmpR (op_ne.or (op_neD hr.units)) o2_ne ha hb (nomark _)
end

/-! ### items, slices -/
def itAt (κ : Cs) (d : D) (i : Int) : Option D := match d with
  | .tup ds => atI ds i
  | d => (seqOf κ d).bind fun ds => atI ds i
def dIx : A2 := fun d e κ R => match e with
  | .int i => ∃ x, itAt κ d i = some x ∧ R x κ
  | _ => False
theorem o2_ix {K : Frag} {mg : MG} : Op2 K mg (rIx K) dIx := by
  intro w x y d e R Q ok rx ry h k
  unfold dIx at h
  split at h
  · obtain ⟨z, hz, h⟩ := h
    cases ry
    unfold itAt at hz
    split at hz
    · obtain ⟨a, xs, rfl, ha, ra⟩ := rp_tup rx
      obtain ⟨v, e1, r1⟩ := atI_rps ra hz
      exact .inr (.inl ⟨a, xs, _, v, rfl, rfl, ha, e1, k _ w _ h (.refl ok) r1⟩)
    · obtain ⟨ds, e1, e2⟩ := Option.bind_eq_some_iff.mp hz
      obtain ⟨a, xs, rfl, ha, ra⟩ := seqOf_at ok rx e1
      obtain ⟨v, e3, r1⟩ := atI_rps ra e2
      exact .inl ⟨a, xs, _, v, rfl, rfl, ha, e3, k _ w _ h (.refl ok) r1⟩
  · exact h.elim
theorem lift_op' {K : Frag} {mg : MG} {r : R2} {f : A2} {t u : AE} (h2 : Op2 K mg r f) {σ : L2.St} {H : Hp} {Q : VK} (h : lE K mg (aOp f t u) σ H Q) : tOp r (lE K mg t) (lE K mg u) σ H Q := lift_op h2 h
section
variable {X : Cx} {a b c e : Expr} {t u s : AE} {pos p2 : Pos} {k : Nat} {lo hi : Option Expr}
theorem q_ix (ha : QE Θ X a t) (hb : QE Θ X b u) (hs : PlainIx b := by exact fun _ _ => rfl) : QE Θ X (.Subscript a b pos) (aOp dIx t u) := (pe_ix ix_seq ha hb hs).imp fun _ _ _ h => lift_op o2_ix h

/-- a part of a slice -/
abbrev AO := Rho → Cs → (Option Int → Cs → Prop) → Prop
def lO (K : Frag) (mg : MG) (t : AO) : TO := fun σ H Q => ∃ (w : Wd) (ρ : Rho) (R : Option Int → Cs → Prop), w.H = H ∧ WOk K mg w ∧ StOk K mg w ρ σ ∧ t ρ w.ce R ∧ ∀ o w', R o w'.ce → To K mg w w' → Q o w'.H
abbrev QO (Θ : TbL) (X : Cx) (e : Option Expr) (t : AO) : Prop := PO X e (lO X.K (X.mgx Θ) t)
theorem _root_.L2.PO.imp {X : Cx} {e : Option Expr} {t t' : TO} (h : PO X e t) (f : ∀ σ H Q, t' σ H Q → t σ H Q) : PO X e t' := by
  cases h with
  | mk run => exact ⟨fun pins s σ H Q I hw => run pins s σ H Q I (f σ H Q hw)⟩
def aNoPart : AO := fun _ κ R => R none κ
def aPart (t : AE) : AO := fun ρ κ R => t ρ κ fun d κ' => match d with
  | .int i => R (some i) κ'
  | _ => False
theorem qo_none : QO Θ X none aNoPart := po_none.imp (by
  rintro σ H Q ⟨w, ρ, R, rfl, ok, st, h, k⟩
  exact k none w h (.refl ok))
theorem qo_some (h : QE Θ X e t) : QO Θ X (some e) (aPart t) := (po_some h).imp (by
  rintro σ H Q ⟨w, ρ, R, rfl, ok, st, h, k⟩
  refine ⟨w, ρ, _, rfl, ok, st, h, fun d w1 v1 h1 t1 r1 => ?_⟩
  split at h1
  · cases r1
    exact ⟨_, rfl, k _ w1 h1 t1⟩
  · exact h1.elim)
def cutD (xs : List D) (lo hi : Option Int) : List D := (xs.drop (HT.sIx xs.length 0 lo)).take (HT.sIx xs.length xs.length hi - HT.sIx xs.length 0 lo)
theorem rps_cut {K : Frag} {mg : MG} {w : Wd} {xs : List V} {ds : List D} (r : Rps K mg w xs ds) (lo hi : Option Int) : Rps K mg w (cutV xs lo hi) (cutD ds lo hi) := by
  unfold cutV cutD
  rw [r.length]
  exact (r.drop _).take _
def dSl (d : D) (l h : Option Int) (κ : Cs) (R : D → Cs → Prop) : Prop := match d with
  | .tup ds => R (.tup (cutD ds l h)) κ
  | d => ∃ ds, seqOf κ d = some ds ∧ R (.lst (cutD ds l h)) κ
def aSl (t : AE) (tl th : AO) : AE := fun ρ κ R => t ρ κ fun d κ1 => tl ρ κ1 fun l κ2 => th ρ κ2 fun h κ3 => dSl d l h κ3 R
theorem q_slice {tl th : AO} (he : QE Θ X e t) (hl : QO Θ X lo tl) (hu : QO Θ X hi th) : QE Θ X (.Subscript e (.Slice lo hi none p2) pos) (aSl t tl th) := (pe_slice (sl_list.or sl_tupA) he hl hu).imp (by
  rintro σ H Q ⟨w, ρ, R, rfl, ok, st, h, k⟩
  refine ⟨w, ρ, _, rfl, ok, st, h, fun d w1 v1 h1 t1 r1 => ?_⟩
  refine ⟨w1, ρ, _, rfl, t1.ok, st.mono t1.gr, h1, fun l w2 h2 t2 => ?_⟩
  refine ⟨w2, ρ, _, rfl, t2.ok, st.mono (t1.trans t2).gr, h2, fun u w3 h3 t3 => ?_⟩
  have r1' := r1.mono (t2.trans t3).gr
  have tt := (t1.trans t2).trans t3
  unfold dSl at h3
  split at h3
  · rename_i ds
    obtain ⟨a, xs, rfl, ha, ra⟩ := rp_tup r1'
    refine .inr ⟨a, xs, rfl, ha, fun z => ?_, fun _ p hp => ?_⟩
    · have e : cutD ds l u = ds := by
        unfold cutD
        rw [← ra.length, z.1, z.2, List.drop_zero, Nat.sub_zero, ra.length, List.take_length]
      rw [e] at h3
      exact k _ w3 _ h3 tt r1'
    · obtain ⟨t4, r⟩ := tup_new tt.ok hp (rps_cut ra l u)
      exact k _ (w3.put p _) _ h3 (tt.trans t4) r
  · obtain ⟨ds, e1, h3⟩ := h3
    obtain ⟨a, xs, rfl, ha, ra⟩ := seqOf_at tt.ok r1' e1
    refine .inl ⟨a, xs, rfl, ha, fun p hp => ?_⟩
    obtain ⟨t4, r⟩ := lst_new tt.ok hp (rps_cut ra l u)
    exact k _ (w3.put p _) _ h3 (tt.trans t4) r)
end

/-! ### built-in functions -/
def aCB (f : AC) (ta : AA) : AE := fun ρ κ R => ta ρ κ fun ds κ1 => f ds κ1 R
def CallOp (K : Frag) (mg : MG) (r : List V → Hp → VK → Prop) (f : AC) : Prop := ∀ (w : Wd) (vs : List V) (ds : List D) (R : D → Cs → Prop) (Q : VK), WOk K mg w → Rps K mg w vs ds → f ds w.ce R →
  (∀ d' w' v, R d' w'.ce → To K mg w w' → Rp K mg w' v d' → Q v w'.H) → r vs w.H Q
theorem lift_cb {K : Frag} {mg : MG} {r : List V → Hp → VK → Prop} {f : AC} {ta : AA} (hf : CallOp K mg r f) {σ : L2.St} {H : Hp} {Q : VK} (h : lE K mg (aCB f ta) σ H Q) : tCB r (lA K mg ta) σ H Q := by
  obtain ⟨w, ρ, R, rfl, ok, st, h, k⟩ := h
  refine ⟨w, ρ, _, rfl, ok, st, h, fun ds w1 vs h1 t1 r1 => ?_⟩
  exact hf w1 vs ds R Q t1.ok r1 h1 fun d' w' v hR t2 r2 => k d' w' v hR (t1.trans t2) r2
section
variable {X : Cx} {x : Str} {p pos : Pos} {e : Expr} {es : List Expr} {ta : AA} {id T : String} {r : List V → Hp → VK → Prop} {f : AC}
theorem q_callB (hc : CallR X (.builtin id) r) (hf : CallOp X.K (X.mgx Θ) r f) (hm : X.mg x = none) (hv : bootBuiltins x = some (.builtin id)) (ha : QA Θ X (e :: es) ta) (hg : Gl X x := by rfl) (hn : x ≠ "__name__" := by decide) (hdb : (x == ("__debug__" : Str)) = false := by decide)
    (he : starEach (e :: es) X.env = (false, eval e X.env) :: starEach es X.env := by rfl) (hpl : (backTo pos (starEach es X.env)).any (·.1) = false := by rfl) : QE Θ X (.Call (.Name x p) (e :: es) [] pos) (aCB f ta) :=
  (pe_callB hc hg hm hv ha hn hdb he hpl).imp fun _ _ _ h => lift_cb hf h
theorem q_callTy (hc : CallR X (.type T) r) (hf : CallOp X.K (X.mgx Θ) r f) (hm : X.mg x = none) (hv : bootBuiltins x = some (.type T)) (ha : QA Θ X (e :: es) ta) (hg : Gl X x := by rfl) (hn : x ≠ "__name__" := by decide) (hdb : (x == ("__debug__" : Str)) = false := by decide)
    (he : starEach (e :: es) X.env = (false, eval e X.env) :: starEach es X.env := by rfl) (hpl : (backTo pos (starEach es X.env)).any (·.1) = false := by rfl) : QE Θ X (.Call (.Name x p) (e :: es) [] pos) (aCB f ta) :=
  (pe_callTy hc hg hm hv ha hn hdb he hpl).imp fun _ _ _ h => lift_cb hf h
end
/-- len -/
def dLen : AC := fun ds κ R => match ds with
  | [.tup xs] => R (.int xs.length) κ
  | [d] => ∃ xs, seqOf κ d = some xs ∧ R (.int xs.length) κ
  | _ => False
theorem rps1 {K : Frag} {mg : MG} {w : Wd} {vs : List V} {d : D} (r : Rps K mg w vs [d]) : ∃ v, vs = [v] ∧ Rp K mg w v d := by
  cases r with
  | cons h1 h2 =>
    cases h2
    exact ⟨_, rfl, h1⟩
theorem rps2 {K : Frag} {mg : MG} {w : Wd} {vs : List V} {d e : D} (r : Rps K mg w vs [d, e]) : ∃ v u, vs = [v, u] ∧ Rp K mg w v d ∧ Rp K mg w u e := by
  cases r with
  | cons h1 h2 =>
    obtain ⟨u, rfl, h⟩ := rps1 h2
    exact ⟨_, u, rfl, h1, h⟩
theorem co_len {K : Frag} {mg : MG} : CallOp K mg (fun xs H Q => ∃ x n, xs = [x] ∧ LenV K x H n ∧ Q (.int n) H) dLen := by
  intro w vs ds R Q ok r h k
  unfold dLen at h
  split at h
  · obtain ⟨v, rfl, rv⟩ := rps1 r
    obtain ⟨a, xs, rfl, ha, ra⟩ := rp_tup rv
    refine ⟨_, _, rfl, .inr ⟨xs, ha, rfl⟩, ?_⟩
    rw [ra.length]
    exact k _ w _ h (.refl ok) (.int _)
  · obtain ⟨xs, e, h⟩ := h
    obtain ⟨v, rfl, rv⟩ := rps1 r
    obtain ⟨a, us, rfl, ha, ra⟩ := seqOf_at ok rv e
    refine ⟨_, _, rfl, .inl ⟨us, ha, rfl⟩, ?_⟩
    rw [ra.length]
    exact k _ w _ h (.refl ok) (.int _)
  · exact h.elim
/-- sum, all, any of a list; min, max -/
def dSum : AC := fun ds κ R => match ds with
  | [d] => ∃ ns : List Int, seqOf κ d = some (ns.map D.int) ∧ R (.int ns.sum) κ
  | _ => False
def dAll : AC := fun ds κ R => match ds with
  | [d] => ∃ bs : List Bool, seqOf κ d = some (bs.map D.bl) ∧ R (.bl (bs.all id)) κ
  | _ => False
def dAny : AC := fun ds κ R => match ds with
  | [d] => ∃ bs : List Bool, seqOf κ d = some (bs.map D.bl) ∧ R (.bl (bs.any id)) κ
  | _ => False
def lstMax : List Int → Int
  | [] => 0
  | x :: xs => xs.foldl max x
def lstMin : List Int → Int
  | [] => 0
  | x :: xs => xs.foldl min x
theorem foldl_max_spec : ∀ (xs : List Int) (x : Int), (xs.foldl max x = x ∨ xs.foldl max x ∈ xs) ∧ x ≤ xs.foldl max x ∧ ∀ y ∈ xs, y ≤ xs.foldl max x
  | [], x => ⟨.inl rfl, Int.le_refl _, fun _ h => nomatch h⟩
  | y :: ys, x => by
    obtain ⟨h1, h2, h3⟩ := foldl_max_spec ys (max x y)
    show (ys.foldl max (max x y) = x ∨ ys.foldl max (max x y) ∈ y :: ys) ∧ x ≤ ys.foldl max (max x y) ∧ ∀ z ∈ y :: ys, z ≤ ys.foldl max (max x y)
    refine ⟨?_, by omega, fun z hz => ?_⟩
    · rcases h1 with h1 | h1
      · rw [h1]
        by_cases q : x ≤ y
        · exact .inr (by rw [show max x y = y by omega]; exact List.mem_cons_self)
        · exact .inl (by omega)
      · exact .inr (List.mem_cons_of_mem _ h1)
    · rcases List.mem_cons.mp hz with e | hz
      · subst e
        omega
      · exact h3 z hz
theorem foldl_min_spec : ∀ (xs : List Int) (x : Int), (xs.foldl min x = x ∨ xs.foldl min x ∈ xs) ∧ xs.foldl min x ≤ x ∧ ∀ y ∈ xs, xs.foldl min x ≤ y
  | [], x => ⟨.inl rfl, Int.le_refl _, fun _ h => nomatch h⟩
  | y :: ys, x => by
    obtain ⟨h1, h2, h3⟩ := foldl_min_spec ys (min x y)
    show (ys.foldl min (min x y) = x ∨ ys.foldl min (min x y) ∈ y :: ys) ∧ ys.foldl min (min x y) ≤ x ∧ ∀ z ∈ y :: ys, ys.foldl min (min x y) ≤ z
    refine ⟨?_, by omega, fun z hz => ?_⟩
    · rcases h1 with h1 | h1
      · rw [h1]
        by_cases q : y ≤ x
        · exact .inr (by rw [show min x y = y by omega]; exact List.mem_cons_self)
        · exact .inl (by omega)
      · exact .inr (List.mem_cons_of_mem _ h1)
    · rcases List.mem_cons.mp hz with e | hz
      · subst e
        omega
      · exact h3 z hz
theorem lstMax_spec {xs : List Int} (h : xs ≠ []) : lstMax xs ∈ xs ∧ ∀ y ∈ xs, y ≤ lstMax xs := by
  cases xs with
  | nil => exact absurd rfl h
  | cons x xs =>
    obtain ⟨h1, h2, h3⟩ := foldl_max_spec xs x
    refine ⟨?_, fun y hy => ?_⟩
    · rcases h1 with e | m
      · show xs.foldl max x ∈ x :: xs
        rw [e]
        exact List.mem_cons_self
      · exact List.mem_cons_of_mem _ m
    · rcases List.mem_cons.mp hy with e | m
      · rw [e]
        exact h2
      · exact h3 y m
theorem lstMin_spec {xs : List Int} (h : xs ≠ []) : lstMin xs ∈ xs ∧ ∀ y ∈ xs, lstMin xs ≤ y := by
  cases xs with
  | nil => exact absurd rfl h
  | cons x xs =>
    obtain ⟨h1, h2, h3⟩ := foldl_min_spec xs x
    refine ⟨?_, fun y hy => ?_⟩
    · rcases h1 with e | m
      · show xs.foldl min x ∈ x :: xs
        rw [e]
        exact List.mem_cons_self
      · exact List.mem_cons_of_mem _ m
    · rcases List.mem_cons.mp hy with e | m
      · rw [e]
        exact h2
      · exact h3 y m
theorem lstMax_eq {xs : List Int} {m : Int} (h : m ∈ xs) (h' : ∀ y ∈ xs, y ≤ m) : lstMax xs = m := by
  obtain ⟨h1, h2⟩ := lstMax_spec (List.ne_nil_of_mem h)
  exact Int.le_antisymm (h' _ h1) (h2 m h)
theorem lstMin_eq {xs : List Int} {m : Int} (h : m ∈ xs) (h' : ∀ y ∈ xs, m ≤ y) : lstMin xs = m := by
  obtain ⟨h1, h2⟩ := lstMin_spec (List.ne_nil_of_mem h)
  exact Int.le_antisymm (h2 m h) (h' _ h1)
def dMin : AC := fun ds κ R => match ds with
  | [.int i, .int j] => R (.int (if j < i then j else i)) κ
  | [d] => ∃ ns : List Int, seqOf κ d = some (ns.map D.int) ∧ ns ≠ [] ∧ R (.int (lstMin ns)) κ
  | _ => False
def dMax : AC := fun ds κ R => match ds with
  | [.int i, .int j] => R (.int (if j > i then j else i)) κ
  | [d] => ∃ ns : List Int, seqOf κ d = some (ns.map D.int) ∧ ns ≠ [] ∧ R (.int (lstMax ns)) κ
  | _ => False
theorem co_sum {K : Frag} {mg : MG} : CallOp K mg (rSum K) dSum := by
  intro w vs ds R Q ok r h k
  unfold dSum at h
  split at h
  · obtain ⟨ns, e, h⟩ := h
    obtain ⟨v, rfl, rv⟩ := rps1 r
    obtain ⟨a, us, rfl, ha, ra⟩ := seqOf_at ok rv e
    have e2 := ra.ints_inv
    subst e2
    exact ⟨a, ns, rfl, ha, k _ w _ h (.refl ok) (.int _)⟩
  · exact h.elim
theorem co_all {K : Frag} {mg : MG} : CallOp K mg (rAll K) dAll := by
  intro w vs ds R Q ok r h k
  unfold dAll at h
  split at h
  · obtain ⟨ns, e, h⟩ := h
    obtain ⟨v, rfl, rv⟩ := rps1 r
    obtain ⟨a, us, rfl, ha, ra⟩ := seqOf_at ok rv e
    have e2 := ra.bls_inv
    subst e2
    exact ⟨a, ns, rfl, ha, k _ w _ h (.refl ok) (.bl _)⟩
  · exact h.elim
theorem co_any {K : Frag} {mg : MG} : CallOp K mg (rAny K) dAny := by
  intro w vs ds R Q ok r h k
  unfold dAny at h
  split at h
  · obtain ⟨ns, e, h⟩ := h
    obtain ⟨v, rfl, rv⟩ := rps1 r
    obtain ⟨a, us, rfl, ha, ra⟩ := seqOf_at ok rv e
    have e2 := ra.bls_inv
    subst e2
    exact ⟨a, ns, rfl, ha, k _ w _ h (.refl ok) (.bl _)⟩
  · exact h.elim
abbrev rMinA (K : Frag) : List V → Hp → VK → Prop := fun xs H Q => (∃ i j, xs = [.int i, .int j] ∧ Q (.int (if j < i then j else i)) H) ∨ rMin K xs H Q
abbrev rMaxA (K : Frag) : List V → Hp → VK → Prop := fun xs H Q => (∃ i j, xs = [.int i, .int j] ∧ Q (.int (if j > i then j else i)) H) ∨ rMax K xs H Q
theorem co_min {K : Frag} {mg : MG} : CallOp K mg (rMinA K) dMin := by
  intro w vs ds R Q ok r h k
  unfold dMin at h
  split at h
  · obtain ⟨v, u, rfl, r1, r2⟩ := rps2 r
    cases r1
    cases r2
    exact .inl ⟨_, _, rfl, k _ w _ h (.refl ok) (.int _)⟩
  · obtain ⟨ns, e, hne, h⟩ := h
    obtain ⟨v, rfl, rv⟩ := rps1 r
    obtain ⟨a, us, rfl, ha, ra⟩ := seqOf_at ok rv e
    have e2 := ra.ints_inv
    subst e2
    refine .inr ⟨a, ns, rfl, ha, List.length_pos_iff.mpr hne, fun m h1 h2 => ?_⟩
    rw [← lstMin_eq h1 h2]
    exact k _ w _ h (.refl ok) (.int _)
  · exact h.elim
theorem co_max {K : Frag} {mg : MG} : CallOp K mg (rMaxA K) dMax := by
  intro w vs ds R Q ok r h k
  unfold dMax at h
  split at h
  · obtain ⟨v, u, rfl, r1, r2⟩ := rps2 r
    cases r1
    cases r2
    exact .inl ⟨_, _, rfl, k _ w _ h (.refl ok) (.int _)⟩
  · obtain ⟨ns, e, hne, h⟩ := h
    obtain ⟨v, rfl, rv⟩ := rps1 r
    obtain ⟨a, us, rfl, ha, ra⟩ := seqOf_at ok rv e
    have e2 := ra.ints_inv
    subst e2
    refine .inr ⟨a, ns, rfl, ha, List.length_pos_iff.mpr hne, fun m h1 h2 => ?_⟩
    rw [← lstMax_eq h1 h2]
    exact k _ w _ h (.refl ok) (.int _)
  · exact h.elim
/-- abs, int -/
def dAbs : AC := fun ds κ R => match ds with
  | [.int i] => R (.int (if i < 0 then -i else i)) κ
  | _ => False
def dInt : AC := fun ds κ R => match ds with
  | [.int i] => R (.int i) κ
  | [.bl b] => R (.int (if b then 1 else 0)) κ
  | _ => False
theorem co_abs {K : Frag} {mg : MG} : CallOp K mg (fun xs H Q => ∃ i, xs = [.int i] ∧ Q (.int (if i < 0 then -i else i)) H) dAbs := by
  intro w vs ds R Q ok r h k
  unfold dAbs at h
  split at h
  · obtain ⟨v, rfl, rv⟩ := rps1 r
    cases rv
    exact ⟨_, rfl, k _ w _ h (.refl ok) (.int _)⟩
  · exact h.elim
theorem co_int {K : Frag} {mg : MG} : CallOp K mg (fun xs H Q => (∃ i, xs = [.int i] ∧ Q (.int i) H) ∨ ∃ k, xs = [.bl k] ∧ Q (.int (if k then 1 else 0)) H) dInt := by
  intro w vs ds R Q ok r h k
  unfold dInt at h
  split at h
  · obtain ⟨v, rfl, rv⟩ := rps1 r
    cases rv
    exact .inl ⟨_, rfl, k _ w _ h (.refl ok) (.int _)⟩
  · obtain ⟨v, rfl, rv⟩ := rps1 r
    cases rv
    exact .inr ⟨_, rfl, k _ w _ h (.refl ok) (.int _)⟩
  · exact h.elim
/-- tuple(xs) -/
def dTuple : AC := fun ds κ R => match ds with
  | [.tup xs] => R (.tup xs) κ
  | [d] => ∃ xs, seqOf κ d = some xs ∧ R (.tup xs) κ
  | _ => False
theorem co_tuple {K : Frag} {mg : MG} : CallOp K mg (fun xs H Q => ∃ p ys, xs = [.ref p] ∧ ((SqL K H p ys ∧ ∀ l, H l = none → Q (.ref l) (upd H l (.tup ys))) ∨ (SqT K H p ys ∧ Q (.ref p) H))) dTuple := by
  intro w vs ds R Q ok r h k
  unfold dTuple at h
  split at h
  · obtain ⟨v, rfl, rv⟩ := rps1 r
    obtain ⟨a, xs, rfl, ha, ra⟩ := rp_tup rv
    exact ⟨a, xs, rfl, .inr ⟨ha, k _ w _ h (.refl ok) rv⟩⟩
  · obtain ⟨xs, e, h⟩ := h
    obtain ⟨v, rfl, rv⟩ := rps1 r
    obtain ⟨a, us, rfl, ha, ra⟩ := seqOf_at ok rv e
    refine ⟨a, us, rfl, .inl ⟨ha, fun p hp => ?_⟩⟩
    obtain ⟨t, r⟩ := tup_new ok hp ra
    exact k _ (w.put p _) _ h t r
  · exact h.elim
section
variable {X : Cx} {p pos : Pos} {e : Expr} {es : List Expr} {ta : AA} {t : AE}
/-- list(xs): a new list -/
def aList (t : AE) : AA := fun ρ κ R => t ρ κ fun d κ1 => match d with
  | .tup xs => R xs κ1
  | d => ∃ xs, seqOf κ1 d = some xs ∧ R xs κ1
theorem q_list (hm : X.mg "list" = none) (ha : QE Θ X e t) (hg : Gl X "list" := by rfl) (he : starEach (e :: []) X.env = (false, eval e X.env) :: starEach [] X.env := by rfl) (hpl : (backTo pos (starEach [] X.env)).any (·.1) = false := by rfl) :
    QL Θ X (.Call (.Name "list" p) [e] [] pos) (aList t) := (pe_callTy call_list_of hg hm (by decide +kernel) (pa_cons ha pa_nil he) (by decide) (by decide) he hpl).imp (by
  rintro σ H Q ⟨w, ρ, R, rfl, ok, st, h, k⟩
  refine ⟨w, ρ, _, rfl, ok, st, h, fun d w1 v1 h1 t1 r1 => ?_⟩
  show ∃ p ys, [v1] = [V.ref p] ∧ (SqL X.K w1.H p ys ∨ SqT X.K w1.H p ys) ∧ ∀ l, w1.H l = none → Q (.ref l) (upd w1.H l (.lst ys))
  split at h1
  · obtain ⟨a, xs, rfl, ha, ra⟩ := rp_tup r1
    exact ⟨a, xs, rfl, .inr ha, fun l hl => new_list t1 ra h1 hl k⟩
  · obtain ⟨xs, e, h1⟩ := h1
    obtain ⟨a, us, rfl, ha, ra⟩ := seqOf_at t1.ok r1 e
    exact ⟨a, us, rfl, .inl ha, fun l hl => new_list t1 ra h1 hl k⟩)
theorem q_len (hm : X.mg "len" = none) (ha : QA Θ X [e] ta) (hg : Gl X "len" := by rfl) (he : starEach (e :: []) X.env = (false, eval e X.env) :: starEach [] X.env := by rfl) (hpl : (backTo pos (starEach [] X.env)).any (·.1) = false := by rfl) :
    QE Θ X (.Call (.Name "len" p) [e] [] pos) (aCB dLen ta) := q_callB call_len co_len hm (by decide +kernel) ha hg (by decide) (by decide) he hpl
theorem q_sum (hc : X.calm = true) (hm : X.mg "sum" = none) (ha : QA Θ X [e] ta) (hg : Gl X "sum" := by rfl) (he : starEach (e :: []) X.env = (false, eval e X.env) :: starEach [] X.env := by rfl) (hpl : (backTo pos (starEach [] X.env)).any (·.1) = false := by rfl) :
    QE Θ X (.Call (.Name "sum" p) [e] [] pos) (aCB dSum ta) := q_callB (cr_sum hc) co_sum hm (by decide +kernel) ha hg (by decide) (by decide) he hpl
theorem q_all (hc : X.calm = true) (hm : X.mg "all" = none) (ha : QA Θ X [e] ta) (hg : Gl X "all" := by rfl) (he : starEach (e :: []) X.env = (false, eval e X.env) :: starEach [] X.env := by rfl) (hpl : (backTo pos (starEach [] X.env)).any (·.1) = false := by rfl) :
    QE Θ X (.Call (.Name "all" p) [e] [] pos) (aCB dAll ta) := q_callB (cr_all hc) co_all hm (by decide +kernel) ha hg (by decide) (by decide) he hpl
theorem q_any (hc : X.calm = true) (hm : X.mg "any" = none) (ha : QA Θ X [e] ta) (hg : Gl X "any" := by rfl) (he : starEach (e :: []) X.env = (false, eval e X.env) :: starEach [] X.env := by rfl) (hpl : (backTo pos (starEach [] X.env)).any (·.1) = false := by rfl) :
    QE Θ X (.Call (.Name "any" p) [e] [] pos) (aCB dAny ta) := q_callB (cr_any hc) co_any hm (by decide +kernel) ha hg (by decide) (by decide) he hpl
theorem q_min (hc : X.calm = true) (hm : X.mg "min" = none) (ha : QA Θ X (e :: es) ta) (hg : Gl X "min" := by rfl) (he : starEach (e :: es) X.env = (false, eval e X.env) :: starEach es X.env := by rfl) (hpl : (backTo pos (starEach es X.env)).any (·.1) = false := by rfl) :
    QE Θ X (.Call (.Name "min" p) (e :: es) [] pos) (aCB dMin ta) := q_callB ((call_min2 hc).or (cr_min hc)) co_min hm (by decide +kernel) ha hg (by decide) (by decide) he hpl
theorem q_max (hc : X.calm = true) (hm : X.mg "max" = none) (ha : QA Θ X (e :: es) ta) (hg : Gl X "max" := by rfl) (he : starEach (e :: es) X.env = (false, eval e X.env) :: starEach es X.env := by rfl) (hpl : (backTo pos (starEach es X.env)).any (·.1) = false := by rfl) :
    QE Θ X (.Call (.Name "max" p) (e :: es) [] pos) (aCB dMax ta) := q_callB ((call_max2 hc).or (cr_max hc)) co_max hm (by decide +kernel) ha hg (by decide) (by decide) he hpl
theorem q_abs (hm : X.mg "abs" = none) (ha : QA Θ X [e] ta) (hg : Gl X "abs" := by rfl) (he : starEach (e :: []) X.env = (false, eval e X.env) :: starEach [] X.env := by rfl) (hpl : (backTo pos (starEach [] X.env)).any (·.1) = false := by rfl) :
    QE Θ X (.Call (.Name "abs" p) [e] [] pos) (aCB dAbs ta) := q_callB call_abs co_abs hm (by decide +kernel) ha hg (by decide) (by decide) he hpl
theorem q_intC (hm : X.mg "int" = none) (ha : QA Θ X [e] ta) (hg : Gl X "int" := by rfl) (he : starEach (e :: []) X.env = (false, eval e X.env) :: starEach [] X.env := by rfl) (hpl : (backTo pos (starEach [] X.env)).any (·.1) = false := by rfl) :
    QE Θ X (.Call (.Name "int" p) [e] [] pos) (aCB dInt ta) := q_callTy call_int1 co_int hm (by decide +kernel) ha hg (by decide) (by decide) he hpl
theorem q_tuple (hm : X.mg "tuple" = none) (ha : QA Θ X [e] ta) (hg : Gl X "tuple" := by rfl) (he : starEach (e :: []) X.env = (false, eval e X.env) :: starEach [] X.env := by rfl) (hpl : (backTo pos (starEach [] X.env)).any (·.1) = false := by rfl) :
    QE Θ X (.Call (.Name "tuple" p) [e] [] pos) (aCB dTuple ta) := q_callTy call_tuple_of co_tuple hm (by decide +kernel) ha hg (by decide) (by decide) he hpl
end

/-! ### isinstance with built-in types -/
def tyD (κ : Cs) : D → Option String
  | .non => some "NoneType"
  | .bl _ => some "bool"
  | .int _ => some "int"
  | .str _ => some "str"
  | .tup _ => some "tuple"
  | d => (seqOf κ d).map fun _ => "list"
theorem tyX_of {K : Frag} {mg : MG} {w : Wd} {v : V} {d : D} {T : String} (ok : WOk K mg w) (r : Rp K mg w v d) (h : tyD w.ce d = some T) : TyX K w.H v (.type T) := by
  have lst : ∀ {d : D} {ds : List D}, Rp K mg w v d → lstOf w.ce d = some ds → TyX K w.H v (.type "list") := fun {d ds} r q => by
    obtain ⟨a, xs, rfl, h1, _⟩ := lstOf_at ok r q
    exact .base (.lst h1)
  cases d with
  | non => cases h; cases r; exact .base .non
  | bl b => cases h; cases r; exact .base (.bl _)
  | int b => cases h; cases r; exact .base (.int _)
  | str b => cases h; cases r; exact .base (.str _)
  | tup ds =>
    cases h
    cases r with
    | tup h1 h2 =>
      rcases h1 with (h1 | ⟨o, h1⟩) | ⟨o, its, n, h1, h2, _⟩
      · exact .base (.tup h1)
      · exact .fTuple h1
      · exact .kTuple h1 h2
  | scr ns =>
    cases h
    cases r with
    | scr h1 =>
      rcases h1 with (⟨o, h1⟩ | ⟨o, its, n, h1, h2, _⟩) | ⟨h1, _⟩
      · exact .base (.frz h1)
      · exact .kList h1 h2
      · exact .base (.lst h1)
  | lst ds => cases h; exact lst (d := .lst ds) r rfl
  | cell k =>
    have h' : (lstOf w.ce (.cell k)).map (fun _ => "list") = some T := h
    cases q : lstOf w.ce (.cell k) with
    | none =>
      rw [q] at h'
      cases h'
    | some ds =>
      rw [q] at h'
      cases h'
      exact lst r q
  | obj c fs => cases h
  | ty n => cases h
  | fn n => cases h
  | opq => cases h
def dIsi : AC := fun ds κ R => match ds with
  | [d, .ty n] => ∃ T b, tyD κ d = some T ∧ kitB T n = some b ∧ R (.bl b) κ
  | _ => False
theorem co_isi {K : Frag} {mg : MG} : CallOp K mg (rIsi K) dIsi := by
  intro w vs ds R Q ok r h k
  unfold dIsi at h
  split at h
  · obtain ⟨T, b, e1, e2, h⟩ := h
    obtain ⟨v, u, rfl, r1, r2⟩ := rps2 r
    cases r2
    exact ⟨v, _, _, _, b, rfl, .ty _, tyX_of ok r1 e1, kit_ty e2, k _ w _ h (.refl ok) (.bl _)⟩
  · exact h.elim
section
variable {X : Cx} {p pos : Pos} {e e2 : Expr} {es : List Expr} {ta : AA} {t : AE} {x : Str} {n : String}
theorem q_isi (hm : X.mg "isinstance" = none) (ha : QA Θ X [e, e2] ta) (hg : Gl X "isinstance" := by rfl) (he : starEach [e, e2] X.env = (false, eval e X.env) :: starEach [e2] X.env := by rfl) (hpl : (backTo pos (starEach [e2] X.env)).any (·.1) = false := by rfl) :
    QE Θ X (.Call (.Name "isinstance" p) [e, e2] [] pos) (aCB dIsi ta) := q_callB call_isi co_isi hm (by decide +kernel) ha hg (by decide) (by decide) he hpl
theorem q_ty (hm : X.mg x = none) (hv : bootBuiltins x = some (.type n)) (hg : Gl X x := by rfl) (hn : x ≠ "__name__" := by decide) (hd : (x == ("__debug__" : Str)) = false := by decide) : QE Θ X (.Name x pos) (aC (.ty n)) :=
  q_const (pe_bltn hg hm hv (v := .ty n) rfl hn hd) fun _ => .ty n
end

/-! ### attributes -/
def objOf (κ : Cs) : D → Option (Str × List (Str × D))
  | .obj c fs => some (c, fs)
  | .cell k => match κ[k]? with
    | some (some (.obj c fs)) => some (c, fs)
    | _ => none
  | _ => none
theorem objOf_at {K : Frag} {mg : MG} {w : Wd} {v : V} {d : D} {c : Str} {fs : List (Str × D)} (ok : WOk K mg w) (r : Rp K mg w v d) (h : objOf w.ce d = some (c, fs)) :
    ∃ a Ca dx vs, v = .ref a ∧ mg c = some (.ref Ca) ∧ w.H a = some (.ins Ca dx vs) ∧ Rpf K mg w vs fs := by
  cases d with
  | obj c' fs' =>
    cases h
    cases r with
    | obj h0 h1 h2 h3 => exact ⟨_, _, _, _, rfl, h0, h1, h3⟩
  | cell k =>
    cases r with
    | cell ea =>
      have h' : (match w.ce[k]? with
        | some (some (.obj c fs)) => some (c, fs)
        | _ => none) = some (c, fs) := h
      split at h'
      · rename_i q
        cases h'
        obtain ⟨b, eb, rb⟩ := ok.at_ k _ q
        rw [ea] at eb
        cases eb
        cases rb with
        | obj h0 h1 h2 => exact ⟨_, _, _, _, rfl, h0, h1, h2⟩
      · cases h'
  | _ => cases h
/-- o.f of an instance of class c -/
def aFld (c f : Str) (t : AE) : AE := fun ρ κ R => t ρ κ fun d κ1 => ∃ fs x, objOf κ1 d = some (c, fs) ∧ fs.lookup f = some x ∧ R x κ1
theorem q_fld {X : Cx} {e : Expr} {t : AE} {c f : Str} {C : Addr} {pos : Pos} (hC : X.mg c = some (.ref C)) (cl : Cls X.K C) (na : NoAttr X.K C f) (he : QE Θ X e t) (hb : attributeBase e f X.env (eval e X.env) = eval e X.env := by rfl) : QE Θ X (.Attribute e f pos) (aFld c f t) :=
  (pe_fld he hb).imp (by
    rintro σ H Q ⟨w, ρ, R, rfl, ok, st, h, k⟩
    refine ⟨w, ρ, _, rfl, ok, st, h, fun d w1 v1 h1 t1 r1 => ?_⟩
    obtain ⟨fs, x, e1, e2, h1⟩ := h1
    obtain ⟨a, Ca, dx, vs, rfl, hc, ha, rf⟩ := objOf_at t1.ok r1 e1
    have hc' : X.mg c = some (.ref Ca) := hc
    rw [hC] at hc'
    cases hc'
    obtain ⟨v, e3, r3⟩ := rf.lookup e2
    exact ⟨a, C, dx, vs, v, rfl, ha, cl, na, e3, k _ w1 _ h1 t1 r3⟩)

/-! ### calls -/
/-- a def's promise at the level of data: arguments, cells, what is wanted -/
abbrev Con := AC
def spOf (K : Frag) (mg : MG) (G : Con) : Sp := fun vs H Q _ => ∃ (w : Wd) (ds : List D) (R : D → Cs → Prop), w.H = H ∧ WOk K mg w ∧ Rps K mg w vs ds ∧ G ds w.ce R ∧
  ∀ d w' v, R d w'.ce → To K mg w w' → Rp K mg w' v d → Q v w'.H
theorem sp_ok {K : Frag} {mg : MG} {G : Con} {w : Wd} {vs : List V} {ds : List D} {R : D → Cs → Prop} {Q : VK} {E : XK} (ok : WOk K mg w) (r : Rps K mg w vs ds) (h : G ds w.ce R)
    (k : ∀ d w' v, R d w'.ce → To K mg w w' → Rp K mg w' v d → Q v w'.H) : spOf K mg G vs w.H Q E := ⟨w, ds, R, rfl, ok, r, h, k⟩
section
variable {X : Cx} {k : Nat} {f C : Addr} {fd : FuncData} {ps : List Str} {G : Con} {x m cn : Str} {p pos apos : Pos} {e o : Expr} {es : List Expr} {ta : AA} {t : AE}
theorem q_call (F : FnOk X.prog X.w X.K X.mg X.base CX0 k f fd ps (spOf X.K (X.mgx Θ) G)) (hr : Room k X.A) (hm : X.mg x = some (.ref f)) (hk : PySem.W.keepIn X.K (.ref f) = true) (hb : Binds X.K fd ps [])
    (ha : QA Θ X (e :: es) ta) (hg : Gl X x := by rfl) (hdb : (x == ("__debug__" : Str)) = false := by decide) (he : starEach (e :: es) X.env = (false, eval e X.env) :: starEach es X.env := by rfl) (hpl : (backTo pos (starEach es X.env)).any (·.1) = false := by rfl) :
    QE Θ X (.Call (.Name x p) (e :: es) [] pos) (aCB G ta) := (pe_call F hr hg hm hk hb .nil pass0 ha hdb he hpl).imp (by
  rintro σ H Q ⟨w, ρ, R, rfl, ok, st, h, k⟩
  refine ⟨w, ρ, _, rfl, ok, st, h, fun ds w1 vs h1 t1 r1 => ?_⟩
  show spOf X.K (X.mgx Θ) G (vs ++ []) w1.H Q E0
  rw [List.append_nil]
  exact sp_ok t1.ok r1 h1 fun d' w' v hR t2 r2 => k d' w' v hR (t1.trans t2) r2)
/-- o.m(..): the instance is the first argument -/
def aMeth (c m : Str) (G : Con) (t : AE) (ta : AA) : AE := fun ρ κ R => t ρ κ fun d κ1 => ∃ fs, objOf κ1 d = some (c, fs) ∧ fs.lookup m = none ∧ ta ρ κ1 fun ds κ2 => G (d :: ds) κ2 R
theorem lift_meth {K : Frag} {mg : MG} (hC : mg cn = some (.ref C)) {σ : L2.St} {H : Hp} {Q : VK} (h : lE K mg (aMeth cn m G t ta) σ H Q) : tMeth C m (spOf K mg G) [] E0 (lE K mg t) (lA K mg ta) σ H Q := by
  obtain ⟨w, ρ, R, rfl, ok, st, h, k⟩ := h
  refine ⟨w, ρ, _, rfl, ok, st, h, fun d w1 v1 h1 t1 r1 => ?_⟩
  obtain ⟨fs, e1, e2, h1⟩ := h1
  obtain ⟨a, Ca, dx, vs, rfl, hc, ha, rf⟩ := objOf_at t1.ok r1 e1
  rw [hC] at hc
  cases hc
  refine ⟨a, dx, vs, rfl, ha, rf.lookup_none e2, w1, ρ, _, rfl, t1.ok, st.mono t1.gr, h1, fun ds w2 us h2 t2 r2 => ?_⟩
  show spOf K mg G (V.ref a :: (us ++ [])) w2.H Q E0
  rw [List.append_nil]
  exact sp_ok t2.ok (.cons (r1.mono t2.gr) r2) h2 fun d' w' v hR t3 r3 => k d' w' v hR ((t1.trans t2).trans t3) r3
theorem q_meth {pl : Sem Bool} (hC : X.mg cn = some (.ref C)) (c : Cls X.K C) (hm : Meth X.K C m f) (F : FnOk X.prog X.w X.K X.mg X.base CX0 k f fd ps (spOf X.K (X.mgx Θ) G)) (hr : Room k X.A) (hb : Binds X.K fd ps []) (he : QE Θ X o t) (ha : QA Θ X (e :: es) ta)
    (hst : starEach (e :: es) X.env = (false, eval e X.env) :: starEach es X.env := by rfl) (hpl : (backTo pos (starEach es X.env)).any (·.1) = false := by rfl)
    (ht : eval (.Call (.Attribute o m apos) (e :: es) [] pos) X.env = (do
      let ov ← eval o X.env
      standAt apos.atName
      let (f, first) ← holding [ov] (getMethod ov m pl)
      callWith pos f first (backTo pos (starEach (e :: es) X.env)) (backToKw pos (keywordEach [] X.env))) := by rfl) :
    QE Θ X (.Call (.Attribute o m apos) (e :: es) [] pos) (aMeth cn m G t ta) := (pe_meth he c hm F hr hb .nil pass0 ha hst hpl ht).imp fun _ _ _ h => lift_meth hC h
theorem q_meth0 {pl : Sem Bool} (hC : X.mg cn = some (.ref C)) (c : Cls X.K C) (hm : Meth X.K C m f) (F : FnOk X.prog X.w X.K X.mg X.base CX0 k f fd ps (spOf X.K (X.mgx Θ) G)) (hr : Room k X.A) (hb : Binds X.K fd ps []) (he : QE Θ X o t)
    (ht : eval (.Call (.Attribute o m apos) [] [] pos) X.env = (do
      let ov ← eval o X.env
      standAt apos.atName
      let (f, first) ← holding [ov] (getMethod ov m pl)
      callWith pos f first (backTo pos (starEach [] X.env)) (backToKw pos (keywordEach [] X.env))) := by rfl) :
    QE Θ X (.Call (.Attribute o m apos) [] [] pos) (aMeth cn m G t aNil) := (pe_meth0 he c hm F hr hb .nil pass0 ht).imp (by
  intro σ H Q h
  obtain ⟨w, ρ, R, rfl, ok, st, h, k⟩ := lift_meth hC h
  refine ⟨w, ρ, R, rfl, ok, st, h, fun d w' v hR t1 r1 => ?_⟩
  obtain ⟨a, dx, fs, e1, e2, e3, hh⟩ := k d w' v hR t1 r1
  refine ⟨a, dx, fs, e1, e2, e3, ?_⟩
  obtain ⟨w2, ρ2, R2, e4, ok2, st2, h2, k2⟩ := hh
  rw [← e4]
  exact k2 [] w2 [] h2 (.refl ok2) .nil)
/-- C(..): a new cell, then __init__ -/
def aMake (c : Str) (G : Con) (ta : AA) : AE := fun ρ κ R => ta ρ κ fun ds κ1 => G (.cell κ1.length :: ds) (κ1 ++ [some (.obj c [])]) fun d κ2 => d = .non ∧ R (.cell κ1.length) κ2
theorem q_make (hC : X.mg cn = some (.ref C)) (M : Mk X.K C f) (F : FnOk X.prog X.w X.K X.mg X.base CX0 k f fd ps (spOf X.K (X.mgx Θ) G)) (hr : Room (k + 1) X.A) (hb : Binds X.K fd ps [])
    (ha : QA Θ X (e :: es) ta) (hg : Gl X cn := by rfl) (hdb : (cn == ("__debug__" : Str)) = false := by decide) (he : starEach (e :: es) X.env = (false, eval e X.env) :: starEach es X.env := by rfl) (hpl : (backTo pos (starEach es X.env)).any (·.1) = false := by rfl) :
    QE Θ X (.Call (.Name cn p) (e :: es) [] pos) (aMake cn G ta) := (pe_make M F hr hg hC hb .nil pass0 ha hdb he hpl).imp (by
  rintro σ H Q ⟨w, ρ, R, rfl, ok, st, h, k⟩
  refine ⟨w, ρ, _, rfl, ok, st, h, fun ds w1 vs h1 t1 r1 => ?_⟩
  intro x dx hx hdx hne
  rw [List.append_nil]
  have t2 : To X.K (X.mgx Θ) w1 (w1.put dx (.own x)) := to_put t1.ok hdx
  have hx2 : (w1.put dx (.own x)).H x = none := by
    show upd w1.H dx (.own x) x = none
    rw [upd_ne (Ne.symm hne)]
    exact hx
  have g3 := gr_hide (o := .ins C dx []) hx2
  have ok3 := ok_hide (o := .ins C dx []) t2.ok hx2 trivial
  have hh : ((w1.put dx (.own x)).hide x (.ins C dx [])).hid = (x, .ins C dx []) :: w.hid := by
    show (x, HO.ins C dx []) :: w1.hid = _
    rw [t1.hid]
  have ok4 := ok_toCell (c := .obj cn []) ok3 hh (.obj hC upd_same .nil)
  have g4 := gr_toCell (c := .obj cn []) ok3 hh
  have g : Gr w1 (((w1.put dx (.own x)).hide x (.ins C dx [])).toCell w.hid x (.obj cn [])) := (t2.gr.trans g3).trans g4
  have tt : To X.K (X.mgx Θ) w (((w1.put dx (.own x)).hide x (.ins C dx [])).toCell w.hid x (.obj cn [])) := ⟨t1.gr.trans g, rfl, ok4⟩
  have rx : Rp X.K (X.mgx Θ) (((w1.put dx (.own x)).hide x (.ins C dx [])).toCell w.hid x (.obj cn [])) (.ref x) (.cell w1.ce.length) := by
    rw [← t1.ok.len]
    exact rp_toCell
  refine sp_ok (w := ((w1.put dx (.own x)).hide x (.ins C dx [])).toCell w.hid x (.obj cn [])) ok4 (.cons rx (r1.mono g)) h1 fun d' w' v hR t5 r5 => ?_
  obtain ⟨rfl, hR⟩ := hR
  cases r5
  exact ⟨rfl, k _ w' _ hR (tt.trans t5) (rx.mono t5.gr)⟩)
/-- a fresh cell is data from now on -/
def aFrz (t : AE) : AE := fun ρ κ R => t ρ κ fun d κ1 => match d with
  | .cell k => ∃ c, κ1[k]? = some (some c) ∧ R c.data (κ1.set k none)
  | _ => False
theorem q_frz (he : QE Θ X e t) : QE Θ X e (aFrz t) := he.imp (by
  rintro σ H Q ⟨w, ρ, R, rfl, ok, st, h, k⟩
  refine ⟨w, ρ, _, rfl, ok, st, h, fun d w1 v1 h1 t1 r1 => ?_⟩
  split at h1
  · rename_i j
    obtain ⟨c, e1, h1⟩ := h1
    cases r1 with
    | cell ea => exact k _ (w1.freeze j) _ h1 (t1.trans ⟨gr_freeze, rfl, ok_freeze t1.ok⟩) (rp_freeze t1.ok e1 ea)
  · exact h1.elim)
end
end PD
set_option Elab.async false
set_option linter.all false
set_option maxRecDepth 100000
set_option maxHeartbeats 4000000
/-! PD, part 5: statements, targets, loops, comprehensions, defs. -/
namespace PD
open PySem PySem.Spec PyProof.Rows L2

structure AEnds where
  nx : Rho → Cs → Prop
  rt : D → Cs → Prop
  bk : Rho → Cs → Prop
  ct : Rho → Cs → Prop
abbrev AS := AEnds → Rho → Cs → Prop
abbrev AG := D → Rho → Cs → (Rho → Cs → Prop) → Prop

structure Lead (K : Frag) (mg : MG) (w : Wd) (A : AEnds) (E : Ends) : Prop where
  nx : ∀ ρ w' σ, A.nx ρ w'.ce → To K mg w w' → StOk K mg w' ρ σ → E.nx σ w'.H
  rt : ∀ d w' v, A.rt d w'.ce → To K mg w w' → Rp K mg w' v d → E.rt v w'.H
  bk : ∀ ρ w' σ, A.bk ρ w'.ce → To K mg w w' → StOk K mg w' ρ σ → E.bk σ w'.H
  ct : ∀ ρ w' σ, A.ct ρ w'.ce → To K mg w w' → StOk K mg w' ρ σ → E.ct σ w'.H
theorem Lead.mono {K : Frag} {mg : MG} {w w1 : Wd} {A : AEnds} {E : Ends} (l : Lead K mg w A E) (t : To K mg w w1) : Lead K mg w1 A E :=
  ⟨fun ρ w' σ h t' s => l.nx ρ w' σ h (t.trans t') s, fun d w' v h t' r => l.rt d w' v h (t.trans t') r, fun ρ w' σ h t' s => l.bk ρ w' σ h (t.trans t') s, fun ρ w' σ h t' s => l.ct ρ w' σ h (t.trans t') s⟩
def lS (K : Frag) (mg : MG) (t : AS) : TS := fun E σ H => ∃ (w : Wd) (ρ : Rho) (A : AEnds), w.H = H ∧ WOk K mg w ∧ StOk K mg w ρ σ ∧ t A ρ w.ce ∧ Lead K mg w A E
abbrev QS (Θ : TbL) (X : Cx) (st : Stmt) (t : AS) : Prop := PS X st (lS X.K (X.mgx Θ) t)
abbrev QSs (Θ : TbL) (X : Cx) (st : List Stmt) (t : AS) : Prop := PSs X st (lS X.K (X.mgx Θ) t)
theorem _root_.L2.PS.imp {X : Cx} {st : Stmt} {t t' : TS} (h : PS X st t) (f : ∀ D σ H, t' D σ H → t D σ H) : PS X st t' := ⟨fun pins s σ H D I hw => h.run pins s σ H D I (f D σ H hw)⟩
theorem _root_.L2.PSs.imp {X : Cx} {st : List Stmt} {t t' : TS} (h : PSs X st t) (f : ∀ D σ H, t' D σ H → t D σ H) : PSs X st t' := ⟨fun pins s σ H D I hw => h.run pins s σ H D I (f D σ H hw)⟩

section
variable {X : Cx} {st : Stmt} {rest : List Stmt} {t u : AS} {e : Expr} {te : AE} {tt : AT} {pos : Pos}
def aNext : AS := fun A ρ κ => A.nx ρ κ
def aSeq (t u : AS) : AS := fun A ρ κ => t { A with nx := u A } ρ κ
theorem qss_nil : QSs Θ X [] aNext := pss_nil.imp (by
  rintro E σ H ⟨w, ρ, A, rfl, ok, st, h, l⟩
  exact l.nx ρ w σ h (.refl ok) st)
theorem qss_one (h : QS Θ X st t) : QSs Θ X [st] t := pss_one h
theorem qss_cons (h1 : QS Θ X st t) (h2 : QSs Θ X rest u) : QSs Θ X (st :: rest) (aSeq t u) := (pss_cons h1 h2).imp (by
  rintro E σ H ⟨w, ρ, A, rfl, ok, st, h, l⟩
  refine ⟨w, ρ, { A with nx := u A }, rfl, ok, st, h, ⟨fun ρ' w' σ' hu t' s' => ?_, l.rt, l.bk, l.ct⟩⟩
  exact ⟨w', ρ', A, rfl, t'.ok, s', hu, l.mono t'⟩)
def aBreak : AS := fun A ρ κ => A.bk ρ κ
def aCont : AS := fun A ρ κ => A.ct ρ κ
theorem qs_pass : QS Θ X (.Pass pos) aNext := ps_pass.imp (by
  rintro E σ H ⟨w, ρ, A, rfl, ok, st, h, l⟩
  exact l.nx ρ w σ h (.refl ok) st)
theorem qs_break : QS Θ X (.Break pos) aBreak := ps_break.imp (by
  rintro E σ H ⟨w, ρ, A, rfl, ok, st, h, l⟩
  exact l.bk ρ w σ h (.refl ok) st)
theorem qs_continue : QS Θ X (.Continue pos) aCont := ps_continue.imp (by
  rintro E σ H ⟨w, ρ, A, rfl, ok, st, h, l⟩
  exact l.ct ρ w σ h (.refl ok) st)
def aRet (t : AE) : AS := fun A ρ κ => t ρ κ A.rt
theorem qs_ret (he : QE Θ X e te) : QS Θ X (.Return (some e) pos) (aRet te) := (ps_ret he).imp (by
  rintro E σ H ⟨w, ρ, A, rfl, ok, st, h, l⟩
  exact ⟨w, ρ, _, rfl, ok, st, h, fun d w' v hR t r => l.rt d w' v hR t r⟩)
def aDrop (t : AE) : AS := fun A ρ κ => t ρ κ fun _ κ' => A.nx ρ κ'
theorem qs_expr (he : QE Θ X e te) (hs : swapsWith e none pos.line X.env = pure false := by rfl) : QS Θ X (.Expr e pos) (aDrop te) := (ps_expr he hs).imp (by
  rintro E σ H ⟨w, ρ, A, rfl, ok, st, h, l⟩
  exact ⟨w, ρ, _, rfl, ok, st, h, fun d w' v hR t r => l.nx ρ w' σ hR t (st.mono t.gr)⟩)
def aIfS (c : AT) (t u : AS) : AS := fun A ρ κ => c ρ κ fun b κ' => if b = true then t A ρ κ' else u A ρ κ'
theorem qs_if {c : Expr} {a b : List Stmt} (hc : QT Θ X c tt) (ha : QSs Θ X a t) (hb : QSs Θ X b u) : QS Θ X (.If c a b pos) (aIfS tt t u) := (ps_if hc ha hb).imp (by
  rintro E σ H ⟨w, ρ, A, rfl, ok, st, h, l⟩
  refine ⟨w, ρ, _, rfl, ok, st, h, fun b w' hR t' => ?_⟩
  cases b with
  | true =>
    rw [if_pos rfl] at hR ⊢
    exact ⟨w', ρ, A, rfl, t'.ok, st.mono t'.gr, hR, l.mono t'⟩
  | false =>
    rw [if_neg Bool.false_ne_true] at hR ⊢
    exact ⟨w', ρ, A, rfl, t'.ok, st.mono t'.gr, hR, l.mono t'⟩)
end

/-! ### targets -/
def Agree (vs : List Nat) (σ σ' : L2.St) : Prop := σ'.length = σ.length ∧ ∀ j, j ∉ vs → σ'[j]? = σ[j]?
def GOk (K : Frag) (mg : MG) (g : TG) (ag : AG) (vs : List Nat) : Prop := ∀ (w : Wd) (v : V) (d : D) (ρ : Rho) (σ : L2.St) (R : Rho → Cs → Prop) (Q : L2.St → Hp → Prop), WOk K mg w → StOk K mg w ρ σ → Rp K mg w v d → ag d ρ w.ce R →
  (∀ ρ' σ' w', R ρ' w'.ce → To K mg w w' → StOk K mg w' ρ' σ' → Agree vs σ σ' → Q σ' w'.H) → g v σ w.H Q
def QG (Θ : TbL) (X : Cx) (tg : Expr) (ag : AG) (vs : List Nat) : Prop := ∃ g, PG X tg g ∧ GOk X.K (X.mgx Θ) g ag vs
def aName (i : Nat) : AG := fun d ρ κ R => R (ρ.set i (some d)) κ
theorem st_set {K : Frag} {mg : MG} {w : Wd} {ρ : Rho} {σ : L2.St} (s : StOk K mg w ρ σ) (i : Nat) {v : V} {d : D} (r : Rp K mg w v d) : StOk K mg w (ρ.set i (some d)) (σ.set i (some v)) := by
  refine ⟨by rw [List.length_set, List.length_set]; exact s.len, fun j e h => ?_⟩
  by_cases hj : i = j
  · subst hj
    by_cases hi : i < ρ.length
    · rw [List.getElem?_set_self hi] at h
      cases h
      exact ⟨v, by rw [List.getElem?_set_self (by rw [← s.len]; exact hi)], r⟩
    · rw [List.getElem?_eq_none (by rw [List.length_set]; omega)] at h
      cases h
  · rw [List.getElem?_set_ne hj] at h
    obtain ⟨u, e1, r1⟩ := s.at_ j e h
    exact ⟨u, by rw [List.getElem?_set_ne hj]; exact e1, r1⟩
theorem g_name {K : Frag} {mg : MG} (i : Nat) : GOk K mg (gName i) (aName i) [i] := by
  intro w v d ρ σ R Q ok st r h k
  refine k _ _ w h (.refl ok) (st_set st i r) ⟨List.length_set, fun j hj => ?_⟩
  rw [List.getElem?_set_ne (fun e => hj (by simp [e]))]
theorem qg_name {X : Cx} {x : Str} {pos : Pos} (i : Nat) (hN : X.N.Nodup) (hi : X.N[i]? = some x := by rfl) (hx : Loc X.env.scope x := by first | exact Or.inl rfl | exact Or.inr rfl)
    (hf : X.fn x = true ∨ X.env.scope.names.lookup x = some .local := by first | exact .inl rfl | exact .inr rfl | assumption) : QG Θ X (.Name x pos) (aName i) [i] := ⟨_, pg_name hN hi hx hf, g_name i⟩
/-- several targets -/
abbrev AGs := List D → Rho → Cs → (Rho → Cs → Prop) → Prop
def GsOk (K : Frag) (mg : MG) (g : TGs) (ag : AGs) (vs : List Nat) : Prop := ∀ (w : Wd) (us : List V) (ds : List D) (ρ : Rho) (σ : L2.St) (R : Rho → Cs → Prop) (Q : L2.St → Hp → Prop), WOk K mg w → StOk K mg w ρ σ → Rps K mg w us ds → ag ds ρ w.ce R →
  (∀ ρ' σ' w', R ρ' w'.ce → To K mg w w' → StOk K mg w' ρ' σ' → Agree vs σ σ' → Q σ' w'.H) → g us σ w.H Q
def QGs (Θ : TbL) (X : Cx) (tgs : List Expr) (ag : AGs) (vs : List Nat) (n : Nat) : Prop := (assignEach tgs X.env).length = n ∧ (∃ g, PGs X tgs g ∧ GsOk X.K (X.mgx Θ) g ag vs) ∧ ∀ ds ρ κ R, ag ds ρ κ R → ds.length = n
def aGNil : AGs := fun ds ρ κ R => match ds with
  | [] => R ρ κ
  | _ => False
def aGCons (g : AG) (gs : AGs) : AGs := fun ds ρ κ R => match ds with
  | d :: ds => g d ρ κ fun ρ' κ' => ds.length = ds.length ∧ gs ds ρ' κ' R
  | [] => False
def aGTup (n : Nat) (gs : AGs) : AG := fun d ρ κ R => match d with
  | .tup ds => ds.length = n ∧ gs ds ρ κ R
  | _ => False
theorem Agree.trans {vs us : List Nat} {σ σ1 σ2 : L2.St} (a : Agree vs σ σ1) (b : Agree us σ1 σ2) : Agree (vs ++ us) σ σ2 :=
  ⟨b.1.trans a.1, fun j hj => by
    rw [List.mem_append, not_or] at hj
    rw [b.2 j hj.2, a.2 j hj.1]⟩
theorem gs_nil {K : Frag} {mg : MG} : GsOk K mg gNil aGNil [] := by
  intro w us ds ρ σ R Q ok st r h k
  unfold aGNil at h
  split at h
  · cases r
    exact ⟨rfl, k ρ σ w h (.refl ok) st ⟨rfl, fun _ _ => rfl⟩⟩
  · exact h.elim
theorem gs_cons {K : Frag} {mg : MG} {g : TG} {ag : AG} {gs : TGs} {ags : AGs} {vs us : List Nat} (h1 : GOk K mg g ag vs) (h2 : GsOk K mg gs ags us) : GsOk K mg (gCons g gs) (aGCons ag ags) (vs ++ us) := by
  intro w ws ds ρ σ R Q ok st r h k
  unfold aGCons at h
  split at h
  · cases r with
    | cons r1 r2 =>
      refine ⟨_, _, rfl, h1 w _ _ ρ σ _ _ ok st r1 h fun ρ' σ' w' hR t s a => ?_⟩
      exact h2 w' _ _ ρ' σ' R Q t.ok s (r2.mono t.gr) hR.2 fun ρ2 σ2 w2 hR2 t2 s2 a2 => k ρ2 σ2 w2 hR2 (t.trans t2) s2 (a.trans a2)
  · exact h.elim
structure QGl (Θ : TbL) (X : Cx) (tgs : List Expr) (ags : AGs) (vs : List Nat) : Prop where
  ex : ∃ g, PGs X tgs g ∧ GsOk X.K (X.mgx Θ) g ags vs
theorem qgs_nil {X : Cx} : QGl Θ X [] aGNil [] := ⟨⟨_, pgs_nil, gs_nil⟩⟩
theorem qgs_cons {X : Cx} {e : Expr} {es : List Expr} {ag : AG} {ags : AGs} {vs us : List Nat} (h1 : QG Θ X e ag vs) (h2 : QGl Θ X es ags us)
    (hs : (assignEach (e :: es) X.env).map (·.2) = assign e X.env :: (assignEach es X.env).map (·.2) := by rfl) : QGl Θ X (e :: es) (aGCons ag ags) (vs ++ us) := by
  obtain ⟨g, p, o⟩ := h1
  obtain ⟨gs, ps, os⟩ := h2.ex
  exact ⟨⟨_, pgs_cons p ps hs, gs_cons o os⟩⟩
theorem qg_tup {X : Cx} {es : List Expr} {k : Nat} {ags : AGs} {vs : List Nat} {n : Nat} {pos : Pos} (hc : X.calm = true) (h : QGl Θ X es ags vs) (hn : (assignEach es X.env).length = n := by rfl) (hst : (assignEach es X.env).findIdx? (·.1) = none := by rfl) :
    QG Θ X (.Tuple es k pos) (aGTup n ags) vs := by
  obtain ⟨gs, ps, os⟩ := h.ex
  refine ⟨_, pg_tup hc ps hn hst, ?_⟩
  intro w v d ρ σ R Q ok st r h k
  unfold aGTup at h
  split at h
  · obtain ⟨a, xs, rfl, ha, ra⟩ := rp_tup r
    exact ⟨a, xs, rfl, ha, by rw [ra.length]; exact h.1, os w xs _ ρ σ R Q ok st ra h.2 k⟩
  · exact h.elim

/-! ### assignments -/
section
variable {X : Cx} {st : Stmt} {rest : List Stmt} {t u : AS} {e : Expr} {te : AE} {tt : AT} {pos : Pos} {ta : AA}
def aAsg (t : AE) (g : AG) : AS := fun A ρ κ => t ρ κ fun d κ' => g d ρ κ' A.nx
theorem qs_asg {tg : Expr} {ag : AG} {vs : List Nat} (he : QE Θ X e te) (hg : QG Θ X tg ag vs) (hs : swapsWithSole [tg] e pos.line X.env = pure false := by rfl) (hw : swappedStores [tg] e X.env = pure none := by rfl)
    (h1 : (assignEach [tg] X.env).map (·.2) = [assign tg X.env] := by rfl) : QS Θ X (.Assign [tg] e pos) (aAsg te ag) := by
  obtain ⟨g, p, o⟩ := hg
  exact (ps_asg he p hs hw h1).imp (by
    rintro E σ H ⟨w, ρ, A, rfl, ok, st, h, l⟩
    refine ⟨w, ρ, _, rfl, ok, st, h, fun d w' v hR t r => ?_⟩
    exact o w' v d ρ σ _ _ t.ok (st.mono t.gr) r hR fun ρ' σ' w2 hR2 t2 s2 _ => l.nx ρ' w2 σ' hR2 (t.trans t2) s2)
/-- name = [comprehension], on one line -/
theorem qs_asgL {i : Nat} {s : Stmt} (h : PS X s (tAsg (lL X.K (X.mgx Θ) ta) (gName i))) : QS Θ X s (aAsg (aData ta) (aName i)) := h.imp (by
  rintro E σ H ⟨w, ρ, A, rfl, ok, st, h, l⟩
  refine ⟨w, ρ, _, rfl, ok, st, h, fun ds w' p xs hR g hh ok' r => ?_⟩
  obtain ⟨t1, r1⟩ := un_list g hh ok' r
  exact l.nx _ (w'.unhide w.hid) _ hR t1 (st_set (st.mono t1.gr) i r1))
theorem qs_asgC {i : Nat} {s : Stmt} (h : PS X s (tAsg (lL X.K (X.mgx Θ) ta) (gName i))) : QS Θ X s (aAsg (aCell ta) (aName i)) := h.imp (by
  rintro E σ H ⟨w, ρ, A, rfl, ok, st, h, l⟩
  refine ⟨w, ρ, _, rfl, ok, st, h, fun ds w' p xs hR g hh ok' r => ?_⟩
  obtain ⟨t1, r1⟩ := cell_list g hh ok' r
  exact l.nx _ (w'.toCell w.hid p (.lst ds)) _ hR t1 (st_set (st.mono t1.gr) i r1))
def aPar (i j : Nat) (ta : AA) : AS := fun A ρ κ => ta ρ κ fun ds κ' => match ds with
  | [d, e] => A.nx ((ρ.set i (some d)).set j (some e)) κ'
  | _ => False
/-- name op= e -/
def aAug (i : Nat) (f : A2) (t : AE) : AS := fun A ρ κ => ∃ x, ρ[i]? = some (some x) ∧ t ρ κ fun d κ' => f x d κ' fun y κ2 => A.nx (ρ.set i (some y)) κ2
theorem qs_aug {x : Str} {op : Operator} {r : R2} {f : A2} {pos' : Pos} (i : Nat) (hN : X.N.Nodup) (he : QE Θ X e te) (ho : PIp X op r) (h2 : Op2 X.K (X.mgx Θ) r f) (hi : X.N[i]? = some x := by rfl) (hx : Loc X.env.scope x := by first | exact Or.inl rfl | exact Or.inr rfl)
    (hf : X.fn x = true ∨ X.env.scope.names.lookup x = some .local := by first | exact .inl rfl | exact .inr rfl | assumption) : QS Θ X (.AugAssign (.Name x pos') op e pos) (aAug i f te) := (ps_aug hN hi hx he ho hf).imp (by
  rintro E σ H ⟨w, ρ, A, rfl, ok, st, ⟨d, e1, h⟩, l⟩
  obtain ⟨v, e2, rv⟩ := st.at_ i d e1
  refine ⟨v, e2, w, ρ, _, rfl, ok, st, h, fun d' w' v' hR t r => ?_⟩
  exact h2 w' v v' d d' _ _ t.ok (rv.mono t.gr) r hR fun y w2 u hR2 t2 r2 => l.nx _ w2 _ hR2 (t.trans t2) (st_set (st.mono (t.trans t2).gr) i r2))
theorem op2_ipI {K : Frag} {mg : MG} {g : Int → Int → Int} : Op2 K mg (ipI g) (dII (fun _ _ => True) fun i j => .int (g i j)) := by
  intro w x y d e R Q ok rx ry h k
  exact op2_ii0 (g := fun i j => .int (g i j)) (fun _ _ _ => .int _) w x y d e R Q ok rx ry h k
abbrev iAdd : A2 := dII (fun _ _ => True) fun i j => .int (i + j)
abbrev iSub : A2 := dII (fun _ _ => True) fun i j => .int (i - j)
end

/-! ### a cell's list is changed -/
theorem cell_at {K : Frag} {mg : MG} {w : Wd} {v : V} {k : Nat} {ds : List D} (ok : WOk K mg w) (r : Rp K mg w v (.cell k)) (h : w.ce[k]? = some (some (.lst ds))) :
    ∃ a xs, v = .ref a ∧ w.al[k]? = some a ∧ w.H a = some (.lst xs) ∧ Rps K mg w xs ds := by
  cases r with
  | cell ea =>
    obtain ⟨b, eb, rb⟩ := ok.at_ k _ h
    rw [ea] at eb
    cases eb
    cases rb with
    | lst h1 h2 => exact ⟨_, _, rfl, ea, h1, h2⟩
theorem to_write {K : Frag} {mg : MG} {w : Wd} {a : Addr} {k : Nat} {ds es : List D} {xs : List V} (ok : WOk K mg w) (h : w.ce[k]? = some (some (.lst ds))) (ea : w.al[k]? = some a) (r : Rps K mg w xs es) :
    To K mg w (w.write k (.lst es) a (.lst xs)) := ⟨gr_write ok h ea, rfl, ok_write ok h ea (.lst upd_same (r.mono (gr_write ok h ea)))⟩
/-- xs.append(e), xs.extend(ys) as values -/
def aApp (t u : AE) : AE := fun ρ κ R => t ρ κ fun d κ1 => match d with
  | .cell k => (∃ ds, κ1[k]? = some (some (.lst ds))) ∧ u ρ κ1 fun e κ2 => ∃ ds, κ2[k]? = some (some (.lst ds)) ∧ ds.length < 16777216 ∧ R .non (κ2.set k (some (.lst (ds ++ [e]))))
  | _ => False
def aExt (t u : AE) : AE := fun ρ κ R => t ρ κ fun d κ1 => match d with
  | .cell k => (∃ ds, κ1[k]? = some (some (.lst ds))) ∧ u ρ κ1 fun e κ2 => ∃ ds es, κ2[k]? = some (some (.lst ds)) ∧ lstOf κ2 e = some es ∧ ds.length + es.length ≤ 16777216 ∧ R .non (κ2.set k (some (.lst (ds ++ es))))
  | _ => False
section
variable {X : Cx} {st : Stmt} {rest : List Stmt} {t u : AE} {e o i : Expr} {te : AE} {tt : AT} {pos apos tpos : Pos} {ta : AA}
theorem lift_app {K : Frag} {mg : MG} {σ : L2.St} {H : Hp} {Q : VK} (h : lE K mg (aApp t u) σ H Q) : tBM K "list" rAppend (lE K mg t) (tCons (lE K mg u) tNil) σ H Q := by
  obtain ⟨w, ρ, R, rfl, ok, st, h, k⟩ := h
  refine ⟨w, ρ, _, rfl, ok, st, h, fun d w1 v1 h1 t1 r1 => ?_⟩
  split at h1
  · rename_i j
    obtain ⟨⟨ds0, q0⟩, h1⟩ := h1
    obtain ⟨a, xs0, rfl, ea, ha, _⟩ := cell_at t1.ok r1 q0
    refine ⟨.inl ⟨rfl, _, .inl (.inl ha)⟩, w1, ρ, _, rfl, t1.ok, st.mono t1.gr, h1, fun e w2 v2 h2 t2 r2 => ?_⟩
    obtain ⟨ds, q, hz, h2⟩ := h2
    obtain ⟨b, xs, eb, ea2, hb, rb⟩ := cell_at t2.ok (r1.mono t2.gr) q
    cases eb
    refine ⟨a, xs, v2, rfl, rfl, hb, by rw [rb.length, sizeLine_eq]; exact hz, ?_⟩
    have t3 := to_write t2.ok q ea2 (rb.append (.cons r2 .nil))
    exact k _ (w2.write j _ a _) _ h2 ((t1.trans t2).trans t3) .non
  · exact h1.elim
theorem lift_ext {K : Frag} {mg : MG} {σ : L2.St} {H : Hp} {Q : VK} (h : lE K mg (aExt t u) σ H Q) : tBM K "list" rExtend (lE K mg t) (tCons (lE K mg u) tNil) σ H Q := by
  obtain ⟨w, ρ, R, rfl, ok, st, h, k⟩ := h
  refine ⟨w, ρ, _, rfl, ok, st, h, fun d w1 v1 h1 t1 r1 => ?_⟩
  split at h1
  · rename_i j
    obtain ⟨⟨ds0, q0⟩, h1⟩ := h1
    obtain ⟨a, xs0, rfl, ea, ha, _⟩ := cell_at t1.ok r1 q0
    refine ⟨.inl ⟨rfl, _, .inl (.inl ha)⟩, w1, ρ, _, rfl, t1.ok, st.mono t1.gr, h1, fun e w2 v2 h2 t2 r2 => ?_⟩
    obtain ⟨ds, es, q, q2, hz, h2⟩ := h2
    obtain ⟨b, xs, eb, ea2, hb, rb⟩ := cell_at t2.ok (r1.mono t2.gr) q
    cases eb
    obtain ⟨c, ys, rfl, hc, rc⟩ := lstOf_at t2.ok r2 q2
    refine ⟨a, c, xs, ys, rfl, rfl, hb, hc, by rw [rb.length, rc.length, sizeLine_eq]; exact hz, ?_⟩
    have t3 := to_write t2.ok q ea2 (rb.append rc)
    exact k _ (w2.write j _ a _) _ h2 ((t1.trans t2).trans t3) .non
  · exact h1.elim
/-- o[i] as a target -/
def aSub (t u : AE) : AG := fun d ρ κ R => t ρ κ fun o κ1 => u ρ κ1 fun i κ2 => match o, i with
  | .cell k, .int i => ∃ ds j, κ2[k]? = some (some (.lst ds)) ∧ ixN ds.length i = some j ∧ R ρ (κ2.set k (some (.lst (ds.set j d))))
  | _, _ => False
theorem qg_sub {i : Expr} (ho : QE Θ X o t) (hi : QE Θ X i u)
    (ha : ∀ v, assign (.Subscript o i pos) X.env v = (do
      let ov ← holding [v] (eval o X.env)
      let iv ← holding [v, ov] (eval i X.env)
      standAt pos
      holding [v, ov, iv] (setItem ov iv v)
      release [v, ov, iv] []) := by intro _; rfl) : QG Θ X (.Subscript o i pos) (aSub t u) [] := by
  refine ⟨_, pg_sub ho hi set_list ha, ?_⟩
  intro w v d ρ σ R Q ok st r h k
  refine ⟨w, ρ, _, rfl, ok, st, h, fun o w1 v1 h1 t1 r1 => ?_⟩
  refine ⟨w1, ρ, _, rfl, t1.ok, st.mono t1.gr, h1, fun i w2 v2 h2 t2 r2 => ?_⟩
  split at h2
  · obtain ⟨ds, j, q, qj, h2⟩ := h2
    obtain ⟨a, xs, rfl, ea, ha, ra⟩ := cell_at t2.ok (r1.mono t2.gr) q
    cases r2
    have tt := t1.trans t2
    have t3 := to_write t2.ok q ea (ra.set (r.mono tt.gr) j)
    exact ⟨a, xs, _, j, rfl, rfl, ha, by rw [ra.length]; exact qj, k ρ σ _ h2 (tt.trans t3) (st.mono (tt.trans t3).gr) ⟨rfl, fun _ _ => rfl⟩⟩
  · exact h2.elim
/-- o[i] op= e, o a list -/
def rGetL : V → V → Hp → VK → Prop := fun o i H Q => ∃ p xs j v, o = .ref p ∧ i = .int j ∧ H p = some (.lst xs) ∧ atI xs j = some v ∧ Q v H
theorem get_list : PGet X rGetL := by
  intro pins s σ H o i ov iv Q I ro ri h
  obtain ⟨p, xs, i, z, rfl, rfl, hp, he, q⟩ := h
  cases ro
  obtain ⟨t, rfl⟩ := ri
  obtain ⟨its, r, pl, hz⟩ := I.list (SqL.of (K := X.K) hp)
  obtain ⟨j, h1, h2, h3, h4, h5⟩ := atI_get he
  obtain ⟨w, ew, rw'⟩ := r.get h2
  have hl := r.length
  have hn := line63
  have fin : EP X pins σ Q w s := ⟨z, H, I, rw', q⟩
  by_cases h0 : 0 ≤ i
  · have hj : i.toNat = j := by
      rw [seqIndex_of h0 h5] at h1
      exact Option.some.inj h1
    exact wpAny_getItem_list pl.isList h0 (by omega) (by rw [hj]; simpa using ew) fin
  · have hj : (i + (its.toArray.size : Int)).toNat = j := by
      rw [seqIndex_neg (by omega) h4] at h1
      rw [List.size_toArray, ← hl]
      exact Option.some.inj h1
    exact wpAny_getItem_list_neg pl.isList (by omega) (by rw [List.size_toArray] <;> omega) (by omega) (by rw [hj]; simpa using ew) fin
def aAugS (f : A2) (t u s : AE) : AS := fun A ρ κ => t ρ κ fun o κ1 => u ρ κ1 fun i κ2 => match o, i with
  | .cell k, .int i => ∃ ds j x, κ2[k]? = some (some (.lst ds)) ∧ ixN ds.length i = some j ∧ ds[j]? = some x ∧ s ρ κ2 fun d κ3 => f x d κ3 fun y κ4 =>
      ∃ es, κ4[k]? = some (some (.lst es)) ∧ ixN es.length i = some j ∧ A.nx ρ (κ4.set k (some (.lst (es.set j y))))
  | _, _ => False
theorem qs_augS {i : Expr} {s : AE} {op : Operator} {r : R2} {f : A2} (ho : QE Θ X o t) (hi : QE Θ X i u) (he : QE Θ X e s) (hp : PIp X op r) (h2 : Op2 X.K (X.mgx Θ) r f)
    (ha : ∀ ov iv new, augStore i ov iv new = (do holding [new, ov, iv] (setItem ov iv new); release [new, ov, iv] []; pure .next) := by intros; rfl) : QS Θ X (.AugAssign (.Subscript o i tpos) op e pos) (aAugS f t u s) :=
  (ps_augS ho hi get_list he hp set_list ha).imp (by
    rintro E σ H ⟨w, ρ, A, rfl, ok, st, h, l⟩
    refine ⟨w, ρ, _, rfl, ok, st, h, fun o w1 v1 h1 t1 r1 => ?_⟩
    refine ⟨w1, ρ, _, rfl, t1.ok, st.mono t1.gr, h1, fun i w2 v2 h2' t2 r2 => ?_⟩
    split at h2'
    · rename_i k i
      obtain ⟨ds, j, x, q, qj, qx, h3⟩ := h2'
      obtain ⟨a, xs, rfl, ea, ha, ra⟩ := cell_at t2.ok (r1.mono t2.gr) q
      cases r2
      obtain ⟨vx, ex, rx⟩ := ra.get qx
      refine ⟨a, xs, i, vx, rfl, rfl, ha, ?_, ?_⟩
      · unfold atI
        rw [ra.length, qj]
        exact ex
      · refine ⟨w2, ρ, _, rfl, t2.ok, st.mono (t1.trans t2).gr, h3, fun d w3 v3 h3 t3 r3 => ?_⟩
        refine h2 w3 vx v3 x d _ _ t3.ok (rx.mono t3.gr) r3 h3 fun y w4 v4 h4 t4 r4 => ?_
        obtain ⟨es, q4, qj4, h4⟩ := h4
        have rk : Rp X.K (X.mgx Θ) w4 (.ref a) (.cell k) := r1.mono ((t2.trans t3).trans t4).gr
        obtain ⟨b, ys, eb, ea4, hb, rb⟩ := cell_at t4.ok rk q4
        cases eb
        have tt := ((t1.trans t2).trans t3).trans t4
        have t5 := to_write t4.ok q4 ea4 (rb.set r4 j)
        exact ⟨a, ys, i, j, rfl, rfl, hb, by rw [rb.length]; exact qj4, l.nx ρ (w4.write k _ a _) σ h4 (tt.trans t5) (st.mono (tt.trans t5).gr)⟩
    · exact h2'.elim)
theorem q_append (ho : QE Θ X o t) (he : QE Θ X e u) (hs : starEach (e :: []) X.env = (false, eval e X.env) :: starEach [] X.env := by rfl)
    (hbase : attributeBase o "append" X.env (eval o X.env) = eval o X.env := by rfl)
    (hfew : ((backTo pos (starEach (e :: []) X.env)).all (fun x => !x.1) && (backToKw pos (keywordEach [] X.env)).all (fun x => x.1.isSome)
      && decide ((e :: []).length + ([] : List Keyword).length + (if ([] : List Keyword).isEmpty then 0 else 1) < 30)) = true := by rfl)
    (hline : (apos.endLine == pos.line) = true := by rfl) (hplain : (backTo pos (starEach [] X.env)).any (·.1) = false := by rfl) :
    QE Θ X (.Call (.Attribute o "append" apos) [e] [] pos) (aApp t u) := (pe_bm PySem.F.plainAttrs_list PySem.F.slot_list_append PySem.F.type_list_append mt_append ho (pa_cons he pa_nil hs) hbase hfew hline hs hplain).imp fun _ _ _ h => lift_app h
theorem q_extend (ho : QE Θ X o t) (he : QE Θ X e u) (hs : starEach (e :: []) X.env = (false, eval e X.env) :: starEach [] X.env := by rfl)
    (hbase : attributeBase o "extend" X.env (eval o X.env) = eval o X.env := by rfl)
    (hfew : ((backTo pos (starEach (e :: []) X.env)).all (fun x => !x.1) && (backToKw pos (keywordEach [] X.env)).all (fun x => x.1.isSome)
      && decide ((e :: []).length + ([] : List Keyword).length + (if ([] : List Keyword).isEmpty then 0 else 1) < 30)) = true := by rfl)
    (hline : (apos.endLine == pos.line) = true := by rfl) (hplain : (backTo pos (starEach [] X.env)).any (·.1) = false := by rfl) :
    QE Θ X (.Call (.Attribute o "extend" apos) [e] [] pos) (aExt t u) := (pe_bm PySem.F.plainAttrs_list PySem.F.slot_list_extend PySem.F.type_list_extend mt_extend ho (pa_cons he pa_nil hs) hbase hfew hline hs hplain).imp fun _ _ _ h => lift_ext h
/-- name = e -/
theorem qs_set {x : Str} {pos' : Pos} (i : Nat) (hN : X.N.Nodup) (he : QE Θ X e te) (hi : X.N[i]? = some x := by rfl) (hx : Loc X.env.scope x := by first | exact Or.inl rfl | exact Or.inr rfl)
    (hs : swapsWith e (some (.Name x pos')) pos.line X.env = pure false := by rfl) (hf : X.fn x = true ∨ X.env.scope.names.lookup x = some .local := by first | exact .inl rfl | exact .inr rfl | assumption) :
    QS Θ X (.Assign [.Name x pos'] e pos) (aAsg te (aName i)) := (ps_set hN hi hx he hs hf).imp (by
  rintro E σ H ⟨w, ρ, A, rfl, ok, st, h, l⟩
  exact ⟨w, ρ, _, rfl, ok, st, h, fun d w' v hR t r => l.nx _ w' _ hR t (st_set (st.mono t.gr) i r)⟩)
/-- a, b = e1, e2 -/
theorem qs_par {x y : Str} {a b : Expr} {px py pt : Pos} {kt k2 pt2} (i j : Nat) (hc : X.calm = true) (hN : X.N.Nodup) (ha : QA Θ X [a, b] ta) (hi : X.N[i]? = some x := by rfl) (hj : X.N[j]? = some y := by rfl) (hij : i ≠ j := by decide)
    (hx : X.env.scope.names.lookup x = some .local := by rfl) (hy : X.env.scope.names.lookup y = some .local := by rfl)
    (hw : swappedStores [.Tuple [.Name x px, .Name y py] kt pt] (.Tuple [a, b] k2 pt2) X.env = pure (some [x, y]) := by rfl)
    (hs : swapsWithSole [.Tuple [.Name x px, .Name y py] kt pt] (.Tuple [a, b] k2 pt2) pos.line X.env = pure false := by rfl) : QS Θ X (.Assign [.Tuple [.Name x px, .Name y py] kt pt] (.Tuple [a, b] k2 pt2) pos) (aPar i j ta) :=
  (ps_par hc hN hi hj hij hx hy ha hw hs).imp (by
    rintro E σ H ⟨w, ρ, A, rfl, ok, st, h, l⟩
    refine ⟨w, ρ, _, rfl, ok, st, h, fun ds w' vs hR t r => ?_⟩
    split at hR
    · obtain ⟨u1, u2, rfl, r1, r2⟩ := rps2 r
      exact ⟨u1, u2, rfl, l.nx _ w' _ hR t (st_set (st_set (st.mono t.gr) i r1) j r2)⟩
    · exact hR.elim)
/-- o.f = e, o a cell -/
def putD (f : Str) (d : D) : List (Str × D) → List (Str × D)
  | [] => [(f, d)]
  | (g, e) :: r => if g = f then (g, d) :: r else (g, e) :: putD f d r
theorem rpf_put {K : Frag} {mg : MG} {w : Wd} {f : Str} {v : V} {d : D} (rv : Rp K mg w v d) : ∀ {fs : List (Str × D)} {vs : List (Str × V)}, Rpf K mg w vs fs → Rpf K mg w (putF f v vs) (putD f d fs)
  | [], _, r => by cases r; exact .cons rv .nil
  | (g, e) :: fs, _, r => by
    cases r with
    | @cons _ u us _ _ h1 h2 =>
      show Rpf K mg w (if g = f then (g, v) :: us else (g, u) :: putF f v us) (if g = f then (g, d) :: fs else (g, e) :: putD f d fs)
      by_cases q : g = f
      · rw [if_pos q, if_pos q]
        exact .cons rv h2
      · rw [if_neg q, if_neg q]
        exact .cons h1 (rpf_put rv h2)
theorem cell_obj {K : Frag} {mg : MG} {w : Wd} {v : V} {k : Nat} {c : Str} {C : Addr} {fs : List (Str × D)} (ok : WOk K mg w) (r : Rp K mg w v (.cell k)) (hC : mg c = some (.ref C)) (h : w.ce[k]? = some (some (.obj c fs))) :
    ∃ a dx vs, v = .ref a ∧ w.al[k]? = some a ∧ w.H a = some (.ins C dx vs) ∧ Rpf K mg w vs fs := by
  cases r with
  | cell ea =>
    obtain ⟨b, eb, rb⟩ := ok.at_ k _ h
    rw [ea] at eb
    cases eb
    cases rb with
    | obj h0 h1 h2 =>
      rw [hC] at h0
      cases h0
      exact ⟨_, _, _, rfl, ea, h1, h2⟩
theorem to_writeO {K : Frag} {mg : MG} {w : Wd} {a C dx : Addr} {k : Nat} {c : Str} {ds es : List (Str × D)} {xs : List (Str × V)} (ok : WOk K mg w) (h : w.ce[k]? = some (some (.obj c ds))) (ea : w.al[k]? = some a) (hC : mg c = some (.ref C)) (r : Rpf K mg w xs es) :
    To K mg w (w.write k (.obj c es) a (.ins C dx xs)) := ⟨gr_write ok h ea, rfl, ok_write ok h ea (.obj hC upd_same (r.mono (gr_write ok h ea)))⟩
def aSetF (c f : Str) (t u : AE) : AS := fun A ρ κ => u ρ κ fun d κ1 => t ρ κ1 fun o κ2 => match o with
  | .cell k => ∃ fs, κ2[k]? = some (some (.obj c fs)) ∧ fs.length < 1000 ∧ A.nx ρ (κ2.set k (some (.obj c (putD f d fs))))
  | _ => False
theorem qs_fld {c f : Str} {C : Addr} {pos' : Pos} (hC : X.mg c = some (.ref C)) (cl : Cls X.K C) (na : NoAttr X.K C f) (ho : QE Θ X o t) (he : QE Θ X e u) (hs : swapsWith e (some (.Attribute o f pos')) pos.line X.env = pure false := by rfl) :
    QS Θ X (.Assign [.Attribute o f pos'] e pos) (aSetF c f t u) := (ps_fld ho he hs).imp (by
  rintro E σ H ⟨w, ρ, A, rfl, ok, st, h, l⟩
  refine ⟨w, ρ, _, rfl, ok, st, h, fun d w1 v1 h1 t1 r1 => ?_⟩
  refine ⟨w1, ρ, _, rfl, t1.ok, st.mono t1.gr, h1, fun o w2 v2 h2 t2 r2 => ?_⟩
  split at h2
  · rename_i k
    obtain ⟨fs, q, hz, h2⟩ := h2
    obtain ⟨a, dx, vs, rfl, ea, ha, ra⟩ := cell_obj t2.ok r2 hC q
    have t3 := to_writeO (dx := dx) t2.ok q ea hC (rpf_put (f := f) (r1.mono t2.gr) ra)
    exact ⟨a, C, dx, vs, rfl, ha, cl, na, by rw [ra.length]; exact hz, l.nx ρ (w2.write k _ a _) σ h2 ((t1.trans t2).trans t3) (st.mono ((t1.trans t2).trans t3).gr)⟩
  · exact h2.elim)
end
end PD
set_option Elab.async false
set_option linter.all false
set_option maxRecDepth 100000
set_option maxHeartbeats 4000000
/-! PD, part 6: what loops walk; for, while, comprehensions; a def by its body. -/
namespace PD
open PySem PySem.Spec PyProof.Rows L2

/-! ### what is walked -/
/-- from w on, J yields ds, item by item -/
def Walks (K : Frag) (mg : MG) (J : It) (w : Wd) (ds : List D) : Prop := ∀ w1, Gr w w1 → WOk K mg w1 → (J.stop ds.length w1.H) ∧ ∀ i d, ds[i]? = some d → J.go i w1.H ∧ ∀ x H', J.yld i w1.H x H' →
  ∃ w2, w2.H = H' ∧ w2.ce = w1.ce ∧ To K mg w1 w2 ∧ Rp K mg w2 x d
theorem Walks.mono {K : Frag} {mg : MG} {J : It} {w w' : Wd} {ds : List D} (h : Walks K mg J w ds) (g : Gr w w') : Walks K mg J w' ds := fun w1 g1 ok => h w1 (g.trans g1) ok
def lI (K : Frag) (mg : MG) (t : AA) : TI := fun σ H R => ∃ (w : Wd) (ρ : Rho) (P : List D → Cs → Prop), w.H = H ∧ WOk K mg w ∧ StOk K mg w ρ σ ∧ t ρ w.ce P ∧
  ∀ ds w' J, P ds w'.ce → To K mg w w' → Walks K mg J w' ds → R J w'.H
abbrev QI (Θ : TbL) (X : Cx) (tg iter : Expr) (t : AA) : Prop := PI X tg iter (lI X.K (X.mgx Θ) t)
theorem _root_.L2.PI.imp {X : Cx} {tg e : Expr} {t t' : TI} (h : PI X tg e t) (f : ∀ σ H R, t' σ H R → t σ H R) : PI X tg e t' := ⟨fun pins s σ H R I hw => h.run pins s σ H R I (f σ H R hw)⟩
theorem sqL_of_gr {K : Frag} {w w' : Wd} {a : Addr} {xs : List V} (g : Gr w w') (h : w.H a = some (.lst xs)) (n : ¬ w.live a) : SqL K w'.H a xs := .of (g.im _ _ h (fun _ z => nomatch z) n).1
/-- a list of data, or the script, stands for ever -/
theorem stands {K : Frag} {mg : MG} {w : Wd} {v : V} {d : D} {ds : List D} (r : Rp K mg w v d) (h : (match d with | .lst xs => some xs | .scr ns => some (ns.map D.int) | _ => none) = some ds) :
    ∃ a xs, v = .ref a ∧ Rps K mg w xs ds ∧ ∀ w', Gr w w' → SqL K w'.H a xs := by
  cases d with
  | lst es =>
    cases h
    cases r with
    | lst h1 h2 h3 => exact ⟨_, _, rfl, h3, fun w' g => sqL_of_gr g h1 h2⟩
  | scr ns =>
    cases h
    cases r with
    | scr h1 =>
      rcases h1 with h1 | ⟨h1, h2⟩
      · exact ⟨_, _, rfl, Rps.ints ns, fun w' g => (g.scr h1).sqL⟩
      · exact ⟨_, _, rfl, Rps.ints ns, fun w' g => sqL_of_gr g h1 h2⟩
  | _ => cases h
theorem walks_list {K : Frag} {mg : MG} {w : Wd} {a : Addr} {xs : List V} {ds : List D} (r : Rps K mg w xs ds) (h : ∀ w', Gr w w' → SqL K w'.H a xs) : Walks K mg (Itl K a) w ds := fun w1 g ok =>
  ⟨⟨xs, h w1 g, by rw [r.length]; exact Nat.le_refl _⟩, fun i d e => by
    obtain ⟨v, e1, r1⟩ := r.get e
    exact ⟨⟨xs, v, h w1 g, e1⟩, fun x H' y => by
      obtain ⟨rfl, y⟩ := y
      have e2 := y xs (h w1 g)
      rw [e1] at e2
      cases e2
      exact ⟨w1, rfl, rfl, .refl ok, r1.mono g⟩⟩⟩
theorem walks_tup {K : Frag} {mg : MG} {w : Wd} {a : Addr} {xs : List V} {ds : List D} (r : Rps K mg w xs ds) (h : SqT K w.H a xs) : Walks K mg (Itt K a) w ds := fun w1 g ok =>
  ⟨⟨xs, g.sqT h, by rw [r.length]; exact Nat.le_refl _⟩, fun i d e => by
    obtain ⟨v, e1, r1⟩ := r.get e
    exact ⟨⟨xs, v, g.sqT h, e1⟩, fun x H' y => by
      obtain ⟨rfl, y⟩ := y
      have e2 := y xs (g.sqT h)
      rw [e1] at e2
      cases e2
      exact ⟨w1, rfl, rfl, .refl ok, r1.mono g⟩⟩⟩
/-- the ints lo, lo + 1, .. -/
def rangeD (lo : Int) (n : Nat) : List D := (List.range n).map fun i => D.int (lo + (i : Nat))
theorem walks_range {K : Frag} {mg : MG} {w : Wd} {lo : Int} {n : Nat} : Walks K mg (Itr lo n) w (rangeD lo n) := fun w1 g ok =>
  ⟨by show n ≤ (rangeD lo n).length; rw [rangeD, List.length_map, List.length_range]; exact Nat.le_refl _, fun i d e => by
    have hi : i < n := by
      have h := (List.getElem?_eq_some_iff.mp e).1
      rw [rangeD, List.length_map, List.length_range] at h
      exact h
    refine ⟨hi, fun x H' y => ?_⟩
    obtain ⟨rfl, rfl⟩ := y
    rw [rangeD, List.getElem?_map, List.getElem?_range hi] at e
    cases e
    exact ⟨w1, rfl, rfl, .refl ok, .int _⟩⟩
section
variable {X : Cx} {tg e e2 : Expr} {t u : AE} {ta : AA} {p pos tpos : Pos}
/-- over a list or a tuple of data -/
def aIt (t : AE) : AA := fun ρ κ R => t ρ κ fun d κ' => match d with
  | .lst ds => R ds κ'
  | .scr ns => R (ns.map D.int) κ'
  | .tup ds => R ds κ'
  | _ => False
def iSeq (K : PySem.W.Frag) (tl : TE) : TI := fun σ H R => tl σ H fun x H1 => ∃ a, x = .ref a ∧ ((∃ xs, SqL K H1 a xs ∧ R (Itl K a) H1) ∨ ∃ xs, SqT K H1 a xs ∧ R (Itt K a) H1)
theorem pi_seq {l : Expr} {tl : TE} (hl : PE X l tl) : PI X tg l (iSeq X.K tl) := by
  refine ⟨fun pins s σ H R I h => ?_⟩
  refine thn (hl.run pins s σ H _ I h) fun v s1 ⟨x, H1, I1, r1, q1⟩ => ?_
  obtain ⟨a, e, ⟨xs, hq, q⟩ | ⟨xs, hq, q⟩⟩ := q1
  · subst e
    cases r1
    obtain ⟨its, rv, p, hz⟩ := I1.list hq
    refine wpAny_pyIter_list p.isList ?_
    refine ⟨s1.heap.objs.size, [s1.heap.objs.size], _, _, H1, rfl, I1.kept (t' := s1.toks) fun b o e => Heap.get?_push_of_some _ e, turn_list a _, ⟨_, Heap.get?_push_size _ rfl, rfl, rfl⟩, fun b hb => ?_, q⟩
    have e : b = s1.heap.objs.size := by simpa using hb
    subst e
    exact I1.fpOk (Nat.le_refl _) (I1.hok.fresh (Nat.le_refl _))
  · subst e
    cases r1
    obtain ⟨its, rv, p, hz⟩ := I1.tuple hq
    refine wpAny_pyIter_tuple (show s1.heap.IsTuple a its.toArray from p) ?_
    refine ⟨s1.heap.objs.size, [s1.heap.objs.size], _, _, H1, rfl, I1.kept (t' := s1.toks) fun b o e => Heap.get?_push_of_some _ e, turn_tuple a _, ⟨_, Heap.get?_push_size _ rfl, rfl, rfl⟩, fun b hb => ?_, q⟩
    have e : b = s1.heap.objs.size := by simpa using hb
    subst e
    exact I1.fpOk (Nat.le_refl _) (I1.hok.fresh (Nat.le_refl _))
theorem qi_seq (h : QE Θ X e t) : QI Θ X tg e (aIt t) := (pi_seq h).imp (by
  rintro σ H R ⟨w, ρ, P, rfl, ok, st, h, k⟩
  refine ⟨w, ρ, _, rfl, ok, st, h, fun d w1 v1 h1 t1 r1 => ?_⟩
  split at h1
  · obtain ⟨a, xs, rfl, ra, hs⟩ := stands r1 rfl
    exact ⟨a, rfl, .inl ⟨xs, hs w1 (.refl _), k _ w1 _ h1 t1 (walks_list ra hs)⟩⟩
  · obtain ⟨a, xs, rfl, ra, hs⟩ := stands r1 rfl
    exact ⟨a, rfl, .inl ⟨xs, hs w1 (.refl _), k _ w1 _ h1 t1 (walks_list ra hs)⟩⟩
  · obtain ⟨a, xs, rfl, ha, ra⟩ := rp_tup r1
    exact ⟨a, rfl, .inr ⟨xs, ha, k _ w1 _ h1 t1 (walks_tup ra ha)⟩⟩
  · exact h1.elim)
def aRng1 (ta : AA) : AA := fun ρ κ R => ta ρ κ fun ds κ' => match ds with
  | [.int j] => (-1000000000 ≤ j ∧ j ≤ 1000000000) ∧ R (rangeD 0 j.toNat) κ'
  | _ => False
def aRng2 (ta : AA) : AA := fun ρ κ R => ta ρ κ fun ds κ' => match ds with
  | [.int i, .int j] => (-1000000000 ≤ i ∧ i ≤ 1000000000 ∧ -1000000000 ≤ j ∧ j ≤ 1000000000) ∧ R (rangeD i (j - i).toNat) κ'
  | _ => False
theorem qi_rng1 (hm : X.mg "range" = none) (ha : QA Θ X [e] ta) (hg : Gl X "range" := by rfl) (hs : starEach [e] X.env = [(false, eval e X.env)] := by rfl) : QI Θ X tg (.Call (.Name "range" p) [e] [] pos) (aRng1 ta) := (pi_range1 hg hm ha hs).imp (by
  rintro σ H R ⟨w, ρ, P, rfl, ok, st, h, k⟩
  refine ⟨w, ρ, _, rfl, ok, st, h, fun ds w1 vs h1 t1 r1 => ?_⟩
  split at h1
  · obtain ⟨v, rfl, rv⟩ := rps1 r1
    cases rv
    exact ⟨_, rfl, by omega, by omega, k _ w1 _ h1.2 t1 walks_range⟩
  · exact h1.elim)
theorem qi_rng2 (hm : X.mg "range" = none) (ha : QA Θ X [e, e2] ta) (hg : Gl X "range" := by rfl) (hs : starEach [e, e2] X.env = [(false, eval e X.env), (false, eval e2 X.env)] := by rfl) (hs2 : starEach [e2] X.env = [(false, eval e2 X.env)] := by rfl) :
    QI Θ X tg (.Call (.Name "range" p) [e, e2] [] pos) (aRng2 ta) := (pi_range2 hg hm ha hs hs2).imp (by
  rintro σ H R ⟨w, ρ, P, rfl, ok, st, h, k⟩
  refine ⟨w, ρ, _, rfl, ok, st, h, fun ds w1 vs h1 t1 r1 => ?_⟩
  split at h1
  · obtain ⟨v, v2, rfl, rv, rv2⟩ := rps2 r1
    cases rv
    cases rv2
    exact ⟨_, _, rfl, by omega, k _ w1 _ h1.2 t1 walks_range⟩
  · exact h1.elim)
/-- enumerate(list) -/
def enumD (i : Nat) : List D → List D
  | [] => []
  | d :: ds => .tup [.int i, d] :: enumD (i + 1) ds
theorem enumD_length : ∀ (ds : List D) (i : Nat), (enumD i ds).length = ds.length
  | [], _ => rfl
  | d :: ds, i => by rw [enumD, List.length_cons, List.length_cons, enumD_length ds (i + 1)]
theorem enumD_get : ∀ (ds : List D) (j i : Nat), (enumD j ds)[i]? = (ds[i]?).map fun d => .tup [.int (j + i : Nat), d]
  | [], _, _ => by simp [enumD]
  | d :: ds, j, 0 => by simp [enumD]
  | d :: ds, j, i + 1 => by
    rw [enumD, List.getElem?_cons_succ, List.getElem?_cons_succ, enumD_get ds (j + 1) i, show j + 1 + i = j + (i + 1) by omega]
theorem walks_enum {K : Frag} {mg : MG} {w : Wd} {a : Addr} {xs : List V} {ds : List D} (r : Rps K mg w xs ds) (h : ∀ w', Gr w w' → SqL K w'.H a xs) : Walks K mg (Ite K a) w (enumD 0 ds) := fun w1 g ok =>
  ⟨⟨xs, h w1 g, by rw [r.length, enumD_length]; exact Nat.le_refl _⟩, fun i d e => by
    rw [enumD_get, Nat.zero_add] at e
    obtain ⟨d0, e0, rfl⟩ := Option.map_eq_some_iff.mp e
    obtain ⟨v, e1, r1⟩ := r.get e0
    refine ⟨⟨xs, v, h w1 g, e1⟩, fun x H' y => ?_⟩
    obtain ⟨T, z, rfl, hT, rfl, y⟩ := y
    have e2 := y xs (h w1 g)
    rw [e1] at e2
    cases e2
    obtain ⟨t2, r2⟩ := tup_new (xs := [.int (i : Nat), v]) (ds := [.int (i : Nat), d0]) ok hT (.cons (.int _) (.cons (r1.mono g) .nil))
    exact ⟨w1.put T (.tup [.int (i : Nat), v]), rfl, rfl, t2, r2⟩⟩
def aEnum (ta : AA) : AA := fun ρ κ R => ta ρ κ fun ds κ' => match ds with
  | [.lst ds] => R (enumD 0 ds) κ'
  | _ => False
theorem qi_enum {elts : List Expr} {kk : Nat} (hm : X.mg "enumerate" = none) (ha : QA Θ X [e] ta) (hg : Gl X "enumerate" := by rfl) (hs : starEach [e] X.env = [(false, eval e X.env)] := by rfl) : QI Θ X (.Tuple elts kk tpos) (.Call (.Name "enumerate" p) [e] [] pos) (aEnum ta) := (pi_enum hg hm ha hs).imp (by
  rintro σ H R ⟨w, ρ, P, rfl, ok, st, h, k⟩
  refine ⟨w, ρ, _, rfl, ok, st, h, fun ds w1 vs h1 t1 r1 => ?_⟩
  split at h1
  · obtain ⟨v, rfl, rv⟩ := rps1 r1
    obtain ⟨a, xs, rfl, ra, hs⟩ := stands rv rfl
    exact ⟨a, xs, rfl, hs w1 (.refl _), k _ w1 _ h1 t1 (walks_enum ra hs)⟩
  · exact h1.elim)
/-- zip(list, list) -/
def zipD : List D → List D → List D
  | d :: ds, e :: es => .tup [d, e] :: zipD ds es
  | _, _ => []
theorem zipD_length : ∀ ds es : List D, (zipD ds es).length = min ds.length es.length
  | [], _ => by simp [zipD]
  | _ :: _, [] => by simp [zipD]
  | d :: ds, e :: es => by rw [zipD, List.length_cons, List.length_cons, List.length_cons, zipD_length ds es]; omega
theorem zipD_get : ∀ (ds es : List D) (i : Nat) (x : D), (zipD ds es)[i]? = some x → ∃ d e, ds[i]? = some d ∧ es[i]? = some e ∧ x = .tup [d, e]
  | [], _, _, _, h => by simp [zipD] at h
  | _ :: _, [], _, _, h => by simp [zipD] at h
  | d :: ds, e :: es, 0, x, h => by
    simp [zipD] at h
    exact ⟨d, e, rfl, rfl, h.symm⟩
  | d :: ds, e :: es, i + 1, x, h => by
    rw [zipD, List.getElem?_cons_succ] at h
    obtain ⟨a, b, h1, h2, h3⟩ := zipD_get ds es i x h
    exact ⟨a, b, by simpa using h1, by simpa using h2, h3⟩
theorem walks_zip {K : Frag} {mg : MG} {w : Wd} {a b : Addr} {xs ys : List V} {ds es : List D} (r : Rps K mg w xs ds) (h : ∀ w', Gr w w' → SqL K w'.H a xs) (r' : Rps K mg w ys es) (h' : ∀ w', Gr w w' → SqL K w'.H b ys) : Walks K mg (Itz K a b) w (zipD ds es) := fun w1 g ok =>
  ⟨⟨xs, ys, h w1 g, h' w1 g, by rw [r.length, r'.length, zipD_length]; omega⟩, fun i d e => by
    obtain ⟨d0, d1, e0, e1, rfl⟩ := zipD_get _ _ _ _ e
    obtain ⟨v, f1, r1⟩ := r.get e0
    obtain ⟨u, f2, r2⟩ := r'.get e1
    refine ⟨⟨xs, ys, v, u, h w1 g, h' w1 g, f1, f2⟩, fun x H' y => ?_⟩
    obtain ⟨T, z, z', rfl, hT, rfl, y, y'⟩ := y
    have e2 := y xs (h w1 g)
    rw [f1] at e2
    cases e2
    have e3 := y' ys (h' w1 g)
    rw [f2] at e3
    cases e3
    obtain ⟨t2, rr⟩ := tup_new (xs := [v, u]) (ds := [d0, d1]) ok hT (.cons (r1.mono g) (.cons (r2.mono g) .nil))
    exact ⟨w1.put T (.tup [v, u]), rfl, rfl, t2, rr⟩⟩
def aZip (ta : AA) : AA := fun ρ κ R => ta ρ κ fun ds κ' => match ds with
  | [.lst ds, .lst es] => R (zipD ds es) κ'
  | _ => False
theorem qi_zip {elts : List Expr} {kk : Nat} (hm : X.mg "zip" = none) (ha : QA Θ X [e, e2] ta) (hg : Gl X "zip" := by rfl) (hs : starEach [e, e2] X.env = (false, eval e X.env) :: starEach [e2] X.env := by rfl) (hpl : (backTo pos (starEach [e2] X.env)).any (·.1) = false := by rfl) :
    QI Θ X (.Tuple elts kk tpos) (.Call (.Name "zip" p) [e, e2] [] pos) (aZip ta) := (pi_zip hg hm ha hs hpl).imp (by
  rintro σ H R ⟨w, ρ, P, rfl, ok, st, h, k⟩
  refine ⟨w, ρ, _, rfl, ok, st, h, fun ds w1 vs h1 t1 r1 => ?_⟩
  split at h1
  · obtain ⟨v, u, rfl, rv, ru⟩ := rps2 r1
    obtain ⟨a, xs, rfl, ra, hs⟩ := stands rv rfl
    obtain ⟨b, ys, rfl, rb, hs'⟩ := stands ru rfl
    exact ⟨a, b, xs, ys, rfl, hs w1 (.refl _), hs' w1 (.refl _), k _ w1 _ h1 t1 (walks_zip ra hs rb hs')⟩
  · exact h1.elim)
end

/-! ### for -/
def aLoop (g : AG) (tb : AS) : List D → AS
  | [] => fun A ρ κ => A.nx ρ κ
  | d :: ds => fun A ρ κ => g d ρ κ fun ρ' κ' => tb { nx := aLoop g tb ds A, rt := A.rt, bk := A.nx, ct := aLoop g tb ds A } ρ' κ'
def aFor (src : AA) (g : AG) (tb : AS) : AS := fun A ρ κ => src ρ κ fun ds κ' => aLoop g tb ds A ρ κ'
theorem lift_for {K : Frag} {mg : MG} {src : AA} {g : TG} {ag : AG} {vs : List Nat} {tb : AS} (hg : GOk K mg g ag vs) {E : Ends} {σ : L2.St} {H : Hp} (h : lS K mg (aFor src ag tb) E σ H) : tFor (lI K mg src) g (lS K mg tb) E σ H := by
  obtain ⟨w, ρ, A, rfl, ok, st, h, l⟩ := h
  refine ⟨w, ρ, _, rfl, ok, st, h, fun ds w1 J h1 t1 wk => ?_⟩
  refine ⟨fun i m σ' H' => ∃ w2 ρ2, w2.H = H' ∧ To K mg w1 w2 ∧ StOk K mg w2 ρ2 σ' ∧ i + m = ds.length ∧ aLoop ag tb (ds.drop i) A ρ2 w2.ce, ⟨ds.length, w1, ρ, rfl, .refl t1.ok, st.mono t1.gr, Nat.zero_add _, h1⟩, ?_⟩
  rintro i m σ2 H2 ⟨w2, ρ2, rfl, t2, s2, em, h2⟩
  obtain ⟨stop, go⟩ := wk w2 t2.gr t2.ok
  by_cases hi : i < ds.length
  · obtain ⟨g1, y⟩ := go i ds[i] (List.getElem?_eq_getElem hi)
    rw [List.drop_eq_getElem_cons hi] at h2
    refine .inr ⟨g1, fun σ' H' => ∃ w3 ρ3, w3.H = H' ∧ To K mg w1 w3 ∧ StOk K mg w3 ρ3 σ' ∧ aLoop ag tb (ds.drop (i + 1)) A ρ3 w3.ce, fun σ' H' ⟨w3, ρ3, e, t3, s3, h3⟩ => ⟨m - 1, by omega, w3, ρ3, e, t3, s3, by omega, h3⟩, fun x H' hy => ?_⟩
    obtain ⟨w3, rfl, ec, t3, r3⟩ := y x H' hy
    have h2' : ag ds[i] ρ2 w3.ce fun ρ' κ' => tb { nx := aLoop ag tb (ds.drop (i + 1)) A, rt := A.rt, bk := A.nx, ct := aLoop ag tb (ds.drop (i + 1)) A } ρ' κ' := by
      rw [ec]
      exact h2
    refine hg w3 x ds[i] ρ2 σ2 _ _ t3.ok (s2.mono t3.gr) r3 h2' fun ρ4 σ4 w4 h4 t4 s4 _ => ?_
    have t14 := (t2.trans t3).trans t4
    refine ⟨w4, ρ4, _, rfl, t4.ok, s4, h4, ⟨fun ρ' w' σ' hu t' s' => ⟨w', ρ', rfl, t14.trans t', s', hu⟩, fun d w' v hu t' r' => l.rt d w' v hu (t1.trans (t14.trans t')) r',
      fun ρ' w' σ' hu t' s' => l.nx ρ' w' σ' hu (t1.trans (t14.trans t')) s', fun ρ' w' σ' hu t' s' => ⟨w', ρ', rfl, t14.trans t', s', hu⟩⟩⟩
  · have e : i = ds.length := by omega
    subst e
    rw [List.drop_length] at h2
    exact .inl ⟨stop, l.nx ρ2 w2 σ2 h2 (t1.trans t2) s2⟩
theorem qs_for {X : Cx} {tg iter : Expr} {body : List Stmt} {src : AA} {ag : AG} {vs : List Nat} {tb : AS} {pos : Pos} (hp : PassesOwn (model X.prog X.w) X.A X.env X.xe) (hc : X.calm = true) (hi : QI Θ X tg iter src) (hg : QG Θ X tg ag vs) (hb : QSs Θ X body tb)
    (hs : ∀ x, foldedSetIterable iter X.env x = pure x := by intro _; rfl) : QS Θ X (.For tg iter body [] pos) (aFor src ag tb) := by
  obtain ⟨g, p, o⟩ := hg
  exact (ps_for hp hc hi p hb hs).imp fun _ _ _ h => lift_for o h

/-! ### while -/
def whileN (c : AT) (tb : AS) : Nat → AS
  | 0 => fun _ _ _ => False
  | n + 1 => fun A ρ κ => c ρ κ fun b κ' => if b = true then tb { nx := whileN c tb n A, rt := A.rt, bk := A.nx, ct := whileN c tb n A } ρ κ' else A.nx ρ κ'
def aWhile (c : AT) (tb : AS) : AS := fun A ρ κ => ∃ n, whileN c tb n A ρ κ
theorem qs_while {X : Cx} {c : Expr} {body : List Stmt} {tt : AT} {tb : AS} {pos : Pos} (hp : PassesOwn (model X.prog X.w) X.A X.env X.xe) (hc : QT Θ X c tt) (hb : QSs Θ X body tb) : QS Θ X (.While c body [] pos) (aWhile tt tb) := (ps_while hp hc hb).imp (by
  rintro E σ H ⟨w, ρ, A, rfl, ok, st, ⟨n, h⟩, l⟩
  refine ⟨fun m σ' H' => ∃ w2 ρ2, w2.H = H' ∧ To X.K (X.mgx Θ) w w2 ∧ StOk X.K (X.mgx Θ) w2 ρ2 σ' ∧ whileN tt tb m A ρ2 w2.ce, ⟨n, w, ρ, rfl, .refl ok, st, h⟩, ?_⟩
  rintro m σ2 H2 ⟨w2, ρ2, rfl, t2, s2, h2⟩
  cases m with
  | zero => exact h2.elim
  | succ m =>
    refine ⟨w2, ρ2, _, rfl, t2.ok, s2, h2, fun b w3 h3 t3 => ?_⟩
    cases b with
    | false =>
      rw [if_neg Bool.false_ne_true] at h3 ⊢
      exact l.nx ρ2 w3 σ2 h3 (t2.trans t3) (s2.mono t3.gr)
    | true =>
      rw [if_pos rfl] at h3 ⊢
      refine ⟨fun σ' H' => ∃ w4 ρ4, w4.H = H' ∧ To X.K (X.mgx Θ) w w4 ∧ StOk X.K (X.mgx Θ) w4 ρ4 σ' ∧ whileN tt tb m A ρ4 w4.ce, fun σ' H' ⟨w4, ρ4, e, t4, s4, h4⟩ => ⟨m, Nat.lt_succ_self m, w4, ρ4, e, t4, s4, h4⟩, ?_⟩
      have t23 := t2.trans t3
      exact ⟨w3, ρ2, _, rfl, t3.ok, s2.mono t3.gr, h3, ⟨fun ρ' w' σ' hu t' s' => ⟨w', ρ', rfl, t23.trans t', s', hu⟩, fun d w' v hu t' r' => l.rt d w' v hu (t23.trans t') r', fun ρ' w' σ' hu t' s' => l.nx ρ' w' σ' hu (t23.trans t') s', fun ρ' w' σ' hu t' s' => ⟨w', ρ', rfl, t23.trans t', s', hu⟩⟩⟩)

/-! ### comprehensions -/
def awipe (ρ : Rho) : List Nat → Rho
  | [] => ρ
  | v :: vs => (awipe ρ vs).set v none
theorem awipe_length (ρ : Rho) : ∀ vs : List Nat, (awipe ρ vs).length = ρ.length
  | [] => rfl
  | v :: vs => by unfold awipe; rw [List.length_set, awipe_length ρ vs]
theorem awipe_some {ρ : Rho} {i : Nat} {d : D} : ∀ {vs : List Nat}, (awipe ρ vs)[i]? = some (some d) → ρ[i]? = some (some d) ∧ i ∉ vs
  | [], h => ⟨h, by simp⟩
  | v :: vs, h => by
    unfold awipe at h
    by_cases hi : v = i
    · subst hi
      by_cases hv : v < (awipe ρ vs).length
      · rw [List.getElem?_set_self hv] at h; cases h
      · rw [List.getElem?_eq_none (by simpa using hv)] at h; cases h
    · rw [List.getElem?_set_ne hi] at h
      obtain ⟨h1, h2⟩ := awipe_some h
      exact ⟨h1, by simp only [List.mem_cons, not_or]; exact ⟨fun e => hi e.symm, h2⟩⟩
theorem st_wipe {K : Frag} {mg : MG} {w : Wd} {ρ : Rho} {σ : L2.St} (s : StOk K mg w ρ σ) (vs : List Nat) : StOk K mg w (awipe ρ vs) (wipe σ vs) :=
  ⟨by rw [awipe_length, wipe_length]; exact s.len, fun i d h => by
    obtain ⟨h1, h2⟩ := awipe_some h
    obtain ⟨v, e, r⟩ := s.at_ i d h1
    exact ⟨v, by rw [wipe_out h2]; exact e, r⟩⟩
theorem wipe_get {σ : L2.St} {i : Nat} : ∀ {vs : List Nat}, i ∈ vs → i < σ.length → (wipe σ vs)[i]? = some none
  | v :: vs, h, hl => by
    unfold wipe
    by_cases hi : v = i
    · subst hi
      rw [List.getElem?_set_self (by rw [wipe_length]; exact hl)]
    · rw [List.getElem?_set_ne hi]
      refine wipe_get ?_ hl
      rcases List.mem_cons.mp h with e | h
      · exact absurd e.symm hi
      · exact h
theorem wipe_agree {vs us : List Nat} {σ σ' : L2.St} (a : Agree vs (wipe σ us) σ') (h : ∀ v ∈ vs, v ∈ us) : wipe σ' us = wipe σ us := by
  have l : σ'.length = σ.length := by rw [a.1, wipe_length]
  apply List.ext_getElem?
  intro i
  by_cases hi : i ∈ us
  · by_cases hl : i < σ.length
    · rw [wipe_get hi hl, wipe_get hi (by rw [l]; exact hl)]
    · rw [List.getElem?_eq_none (by rw [wipe_length, l]; omega), List.getElem?_eq_none (by rw [wipe_length]; omega)]
  · rw [wipe_out hi, a.2 i fun z => hi (h i z)]
abbrev QTs (Θ : TbL) (X : Cx) (ifs : List Expr) (t : AT) : Prop := PTs X ifs (lT X.K (X.mgx Θ) t)
def aYes : AT := fun _ κ R => R true κ
theorem qts_nil {X : Cx} : QTs Θ X [] aYes := ⟨fun pins s σ H Q I h => by
  obtain ⟨w, ρ, R, rfl, ok, st, h, k⟩ := h
  exact pts_nil.run pins s σ _ _ I (k true w h (.refl ok))⟩
theorem qts_one {X : Cx} {c : Expr} {t : AT} (h : QT Θ X c t) : QTs Θ X [c] t := pts_one h
def compL (g : AG) (tt : AT) (te : AE) (ρ : Rho) : List D → List D → Cs → (List D → Cs → Prop) → Prop
  | [], acc, κ, R => R acc κ
  | d :: ds, acc, κ, R => g d ρ κ fun ρ2 κ2 => tt ρ2 κ2 fun b κ3 => if b = true then te ρ2 κ3 fun y κ4 => acc.length < 16777216 ∧ compL g tt te ρ ds (acc ++ [y]) κ4 R else compL g tt te ρ ds acc κ3 R
def aComp (src : AA) (g : AG) (tt : AT) (te : AE) (vs : List Nat) : AA := fun ρ κ R => src ρ κ fun ds κ' => compL g tt te (awipe ρ vs) ds [] κ' R
theorem lift_comp {K : Frag} {mg : MG} {src : AA} {g : TG} {ag : AG} {vs us : List Nat} {tt : AT} {te : AE} (hg : GOk K mg g ag vs) (hv : ∀ v ∈ vs, v ∈ us) {σ : L2.St} {H : Hp} {Q : VK} (h : lL K mg (aComp src ag tt te us) σ H Q) :
    tLc (lI K mg src) g (lT K mg tt) (lE K mg te) us σ H Q := by
  obtain ⟨w, ρ, R, rfl, ok, st, h, k⟩ := h
  refine ⟨w, ρ, _, rfl, ok, st, h, fun ds w1 J h1 t1 wk => ?_⟩
  intro D0 hD
  refine ⟨fun i m H' => ∃ w2 xs acc, w2.H = H' ∧ Gr w1 w2 ∧ WOk K mg w2 ∧ w2.hid = (D0, .lst xs) :: w1.hid ∧ Rps K mg w2 xs acc ∧ i + m = ds.length ∧ compL ag tt te (awipe ρ us) (ds.drop i) acc w2.ce R,
    ⟨ds.length, w1.hide D0 (.lst []), [], [], rfl, gr_hide hD, ok_hide t1.ok hD trivial, rfl, .nil, Nat.zero_add _, h1⟩, ?_⟩
  rintro i m H2 ⟨w2, xs, acc, rfl, g2, ok2, hh2, r2, em, h2⟩
  obtain ⟨stop, go⟩ := wk w2 g2 ok2
  by_cases hi : i < ds.length
  · obtain ⟨g1, y⟩ := go i ds[i] (List.getElem?_eq_getElem hi)
    rw [List.drop_eq_getElem_cons hi] at h2
    refine .inr ⟨g1, fun H' => ∃ w3 xs acc, w3.H = H' ∧ Gr w1 w3 ∧ WOk K mg w3 ∧ w3.hid = (D0, .lst xs) :: w1.hid ∧ Rps K mg w3 xs acc ∧ compL ag tt te (awipe ρ us) (ds.drop (i + 1)) acc w3.ce R,
      fun H' ⟨w3, xs, acc, e, g3, ok3, hh3, r3, h3⟩ => ⟨m - 1, by omega, w3, xs, acc, e, g3, ok3, hh3, r3, by omega, h3⟩, fun x H' hy => ?_⟩
    obtain ⟨w3, rfl, ec, t3, r3⟩ := y x H' hy
    have h2' : ag ds[i] (awipe ρ us) w3.ce fun ρ2 κ2 => tt ρ2 κ2 fun b κ3 => if b = true then te ρ2 κ3 fun y κ4 => acc.length < 16777216 ∧ compL ag tt te (awipe ρ us) (ds.drop (i + 1)) (acc ++ [y]) κ4 R else compL ag tt te (awipe ρ us) (ds.drop (i + 1)) acc κ3 R := by
      rw [ec]
      exact h2
    have s3 : StOk K mg w3 (awipe ρ us) (wipe σ us) := (st_wipe st us).mono ((t1.gr.trans g2).trans t3.gr)
    refine hg w3 x ds[i] _ _ _ _ t3.ok s3 r3 h2' fun ρ4 σ4 w4 h4 t4 s4 a4 => ⟨wipe_agree a4 hv, ?_⟩
    refine ⟨w4, ρ4, _, rfl, t4.ok, s4, h4, fun b w5 h5 t5 => ?_⟩
    have t35 := (t3.trans t4).trans t5
    cases b with
    | false =>
      rw [if_neg Bool.false_ne_true] at h5
      refine iteF ?_
      exact ⟨w5, xs, acc, rfl, g2.trans t35.gr, t35.ok, t35.hid.trans hh2, r2.mono t35.gr, h5⟩
    | true =>
      rw [if_pos rfl] at h5
      refine iteT ?_
      refine ⟨w5, ρ4, _, rfl, t5.ok, s4.mono t5.gr, h5, fun d6 w6 v6 h6 t6 r6 => ?_⟩
      have t36 := t35.trans t6
      have hh6 : w6.hid = (D0, .lst xs) :: w1.hid := t36.hid.trans hh2
      have r2' := r2.mono t36.gr
      refine ⟨xs, (t36.ok.hidH D0 _ (by rw [hh6]; exact List.mem_cons_self)).1, by rw [r2'.length, sizeLine_eq]; exact h6.1, ?_⟩
      have g7 := gr_rehide (o := .lst (xs ++ [v6])) t36.ok hh6
      refine ⟨w6.rehide w1.hid D0 (.lst (xs ++ [v6])), xs ++ [v6], acc ++ [d6], rfl, (g2.trans t36.gr).trans g7, ok_rehide t36.ok hh6 trivial, rfl, (r2'.append (.cons r6 .nil)).mono g7, h6.2⟩
  · have e : i = ds.length := by omega
    subst e
    rw [List.drop_length] at h2
    exact .inl ⟨stop, k acc w2 D0 xs h2 (t1.gr.trans g2) (by rw [hh2, t1.hid]) ok2 r2⟩
section
variable {X : Cx} {elt tg iter : Expr} {ifs : List Expr} {scope : Scope} {own : List (Str × Nat)} {pos : Pos} {src : AA} {ag : AG} {vs : List Nat} {tt : AT} {te : AE}
/-- [elt for target in iter if ..], a new list -/
theorem q_comp (own : List (Str × Nat)) (hc : X.calm = true) (hN : X.N.Nodup) (hi : QI Θ X tg iter src) (ok : blkC X.N X.env.scope scope own = true)
    (hg : ∃ g, (∀ (s : Shared) (H : Hp) (C : Addr) (cl : List (Str × Addr)) (fp : List Addr), PG (X.blk s H scope (compEnvC scope cl C X.env) fp) tg g) ∧ GOk X.K (X.mgx Θ) g ag vs)
    (ht : ∀ (s : Shared) (H : Hp) (C : Addr) (cl : List (Str × Addr)) (fp : List Addr), QTs Θ (X.blk s H scope (compEnvC scope cl C X.env) fp) ifs tt)
    (he : ∀ (s : Shared) (H : Hp) (C : Addr) (cl : List (Str × Addr)) (fp : List Addr), QE Θ (X.blk s H scope (compEnvC scope cl C X.env) fp) elt te) (hv : vs.all (fun v => (own.map (·.2)).contains v) = true := by decide)
    (hs : ∀ x, foldedSetIterable iter X.env x = pure x := by intro _; rfl) : QL Θ X (.ListComp elt [⟨tg, iter, ifs, 0⟩] scope pos) (aComp src ag tt te (own.map (·.2))) := by
  obtain ⟨g, p, o⟩ := hg
  refine (pe_lc hc hN hi (blkOk_by ok) p ht he hs).imp fun _ _ _ h => lift_comp o (fun v hm => ?_) h
  have q := List.all_eq_true.mp hv v hm
  simpa using q
/-- name = [..] on one line -/
theorem qs_setComp {y : Str} {py spos : Pos} (i : Nat) (own : List (Str × Nat)) (hc : X.calm = true) (hN : X.N.Nodup) (hi : QI Θ X tg iter src) (ok : blkC X.N X.env.scope scope own = true)
    (hg : ∃ g, (∀ (s : Shared) (H : Hp) (C : Addr) (cl : List (Str × Addr)) (fp : List Addr), PG (X.blk s H scope (compEnvC scope cl C X.env) fp) tg g) ∧ GOk X.K (X.mgx Θ) g ag vs)
    (ht : ∀ (s : Shared) (H : Hp) (C : Addr) (cl : List (Str × Addr)) (fp : List Addr), QTs Θ (X.blk s H scope (compEnvC scope cl C X.env) fp) ifs tt)
    (he : ∀ (s : Shared) (H : Hp) (C : Addr) (cl : List (Str × Addr)) (fp : List Addr), QE Θ (X.blk s H scope (compEnvC scope cl C X.env) fp) elt te)
    (hsw : swapsWith (.ListComp elt [⟨tg, iter, ifs, 0⟩] scope pos) (some (.Name y py)) spos.line X.env = pure true)
    (hv : vs.all (fun v => (own.map (·.2)).contains v) = true := by decide) (hy : X.N[i]? = some y := by rfl) (hyl : X.env.scope.names.lookup y = some .local := by rfl)
    (hs : ∀ x, foldedSetIterable iter X.env x = pure x := by intro _; rfl) : PS X (.Assign [.Name y py] (.ListComp elt [⟨tg, iter, ifs, 0⟩] scope pos) spos) (tAsg (lL X.K (X.mgx Θ) (aComp src ag tt te (own.map (·.2)))) (gName i)) := by
  obtain ⟨g, p, o⟩ := hg
  refine (ps_setLc hc hN hy hyl hsw hi (blkOk_by ok) p ht he hs).imp fun _ _ _ h => lift_comp o (fun v hm => ?_) h
  have q := List.all_eq_true.mp hv v hm
  simpa using q
end

/-! ### a def by its body -/
mutual
/-- no cell from n on -/
def blw (n : Nat) : D → Bool
  | .cell k => decide (k < n)
  | .lst ds => blws n ds
  | .tup ds => blws n ds
  | .obj _ fs => blwf n fs
  | _ => true
def blws (n : Nat) : List D → Bool
  | [] => true
  | d :: ds => blw n d && blws n ds
def blwf (n : Nat) : List (Str × D) → Bool
  | [] => true
  | (_, d) :: ds => blw n d && blwf n ds
end
def Ce.blw (n : Nat) : Ce → Bool
  | .lst ds => blws n ds
  | .obj _ fs => blwf n fs
  | .dic kvs => blws n (kvs.map (·.1)) && blws n (kvs.map (·.2))
  | .dki kvs => blws n (kvs.map (·.2))
section
variable {K : Frag} {mg : MG} {w w' : Wd} {n : Nat}
mutual
theorem Rp.blw : ∀ {d : D} {v : V}, Rp K mg w v d → blw w.al.length d = true
  | .non, _, _ => rfl
  | .bl _, _, _ => rfl
  | .int _, _, _ => rfl
  | .str _, _, _ => rfl
  | .scr _, _, _ => rfl
  | .ty _, _, _ => rfl
  | .fn _, _, _ => rfl
  | .opq, _, _ => rfl
  | .lst ds, _, r => by
    cases r with
    | lst h1 h2 h3 => exact Rps.blw h3
  | .tup ds, _, r => by
    cases r with
    | tup h1 h3 => exact Rps.blw h3
  | .obj c fs, _, r => by
    cases r with
    | obj h0 h1 h2 h3 => exact Rpf.blw h3
  | .cell k, _, r => by
    cases r with
    | cell e => exact decide_eq_true (List.getElem?_eq_some_iff.mp e).1
theorem Rps.blw : ∀ {ds : List D} {vs : List V}, Rps K mg w vs ds → blws w.al.length ds = true
  | [], _, _ => rfl
  | d :: ds, _, r => by
    cases r with
    | cons h1 h2 =>
      show (PD.blw w.al.length d && blws w.al.length ds) = true
      rw [Rp.blw h1, Rps.blw h2]
      rfl
theorem Rpf.blw : ∀ {ds : List (Str × D)} {vs : List (Str × V)}, Rpf K mg w vs ds → blwf w.al.length ds = true
  | [], _, _ => rfl
  | (x, d) :: ds, _, r => by
    cases r with
    | cons h1 h2 =>
      show (PD.blw w.al.length d && blwf w.al.length ds) = true
      rw [Rp.blw h1, Rpf.blw h2]
      rfl
end
theorem WOk.blw (ok : WOk K mg w) {k : Nat} {c : Ce} (e : w.ce[k]? = some (some c)) : c.blw w.ce.length = true := by
  obtain ⟨a, _, r⟩ := ok.at_ k c e
  rw [← ok.len]
  cases r with
  | lst h1 h2 => exact h2.blw
  | dic h1 h2 h3 h4 h5 h6 => exact Bool.and_eq_true_iff.mpr ⟨h4.blw, h6.blw⟩
  | dki h1 h2 h3 => exact h3.blw
  | obj h0 h1 h2 => exact h2.blw
def Wd.trunc (w : Wd) (n : Nat) : Wd := { w with al := w.al.take n, ce := w.ce.take n }
theorem live_trunc {a : Addr} (h : (w.trunc n).live a) : w.live a := by
  rcases h with ⟨k, c, e1, e2⟩ | h
  · have e1' : (w.ce.take n)[k]? = some (some c) := e1
    have e2' : (w.al.take n)[k]? = some a := e2
    rw [List.getElem?_take] at e1' e2'
    split at e1'
    · rename_i hk
      rw [if_pos hk] at e2'
      exact .inl ⟨k, c, e1', e2'⟩
    · cases e1'
  · exact .inr h
mutual
theorem Rp.trunc : ∀ {d : D} {v : V}, Rp K mg w v d → PD.blw n d = true → Rp K mg (w.trunc n) v d
  | .non, _, r, _ => by cases r; exact .non
  | .bl _, _, r, _ => by cases r; exact .bl _
  | .int _, _, r, _ => by cases r; exact .int _
  | .str _, _, r, _ => by cases r; exact .str _
  | .ty _, _, r, _ => by cases r; exact .ty _
  | .opq, _, r, _ => by
    cases r with
    | opq h => exact .opq h
  | .scr _, _, r, _ => by
    cases r with
    | scr h => exact .scr (h.imp id fun h => ⟨h.1, fun z => h.2 (live_trunc z)⟩)
  | .fn _, _, r, _ => by
    cases r with
    | fn h => exact .fn h
  | .lst ds, _, r, b => by
    cases r with
    | lst h1 h2 h3 => exact .lst h1 (fun z => h2 (live_trunc z)) (Rps.trunc h3 b)
  | .tup ds, _, r, b => by
    cases r with
    | tup h1 h3 => exact .tup h1 (Rps.trunc h3 b)
  | .obj c fs, _, r, b => by
    cases r with
    | obj h0 h1 h2 h3 => exact .obj h0 h1 (fun z => h2 (live_trunc z)) (Rpf.trunc h3 b)
  | .cell k, _, r, b => by
    cases r with
    | cell e =>
      refine .cell ?_
      show (w.al.take n)[k]? = _
      rw [List.getElem?_take, if_pos (of_decide_eq_true (show decide (k < n) = true from b))]
      exact e
theorem Rps.trunc : ∀ {ds : List D} {vs : List V}, Rps K mg w vs ds → blws n ds = true → Rps K mg (w.trunc n) vs ds
  | [], _, r, _ => by cases r; exact .nil
  | d :: ds, _, r, b => by
    have b' : PD.blw n d = true ∧ blws n ds = true := Bool.and_eq_true_iff.mp b
    cases r with
    | cons h1 h2 => exact .cons (Rp.trunc h1 b'.1) (Rps.trunc h2 b'.2)
theorem Rpf.trunc : ∀ {ds : List (Str × D)} {vs : List (Str × V)}, Rpf K mg w vs ds → blwf n ds = true → Rpf K mg (w.trunc n) vs ds
  | [], _, r, _ => by cases r; exact .nil
  | (x, d) :: ds, _, r, b => by
    have b' : PD.blw n d = true ∧ blwf n ds = true := Bool.and_eq_true_iff.mp b
    cases r with
    | cons h1 h2 => exact .cons (Rp.trunc h1 b'.1) (Rpf.trunc h2 b'.2)
end
theorem take_some {α : Type} {xs : List α} {n k : Nat} {x : α} (h : (xs.take n)[k]? = some x) : k < n ∧ xs[k]? = some x := by
  rw [List.getElem?_take] at h
  split at h
  · rename_i hk
    exact ⟨hk, h⟩
  · cases h
theorem ok_trunc (ok : WOk K mg w) (hb : ∀ (k : Nat) (c : Ce), (w.ce.take n)[k]? = some (some c) → c.blw n = true) : WOk K mg (w.trunc n) where
  len := by
    show (w.al.take n).length = (w.ce.take n).length
    rw [List.length_take, List.length_take, ok.len]
  at_ := fun k c e => by
    have e' : (w.ce.take n)[k]? = some (some c) := e
    obtain ⟨hk, e1⟩ := take_some e'
    obtain ⟨a, ea, r⟩ := ok.at_ k c e1
    refine ⟨a, ?_, ?_⟩
    · show (w.al.take n)[k]? = _
      rw [List.getElem?_take, if_pos hk]
      exact ea
    · have b := hb k c e'
      cases r with
      | lst h1 h2 => exact .lst h1 (h2.trunc b)
      | obj h0 h1 h2 => exact .obj h0 h1 (h2.trunc b)
      | dic h1 h2 h3 h4 h5 h6 =>
        have b' := Bool.and_eq_true_iff.mp b
        exact .dic h1 h2 h3 (h4.trunc b'.1) h5 (h6.trunc b'.2)
      | dki h1 h2 h3 => exact .dki h1 h2 (h3.trunc b)
  inj := fun j k a c c' e1 e2 e3 e4 => ok.inj j k a c c' (take_some e1).2 (take_some e2).2 (take_some e3).2 (take_some e4).2
  hidH := ok.hidH
  hidC := fun b u m k c e q => ok.hidC b u m k c (take_some e).2 (take_some q).2
  hidN := ok.hidN
  tab := ok.tab
theorem gr_trunc (g : Gr w w') (h : w.al.length ≤ n) : Gr w (w'.trunc n) := by
  refine ⟨?_, fun a o e z l => ?_, g.tp, g.fz⟩
  · obtain ⟨t, e⟩ := g.al
    refine ⟨t.take (n - w.al.length), ?_⟩
    show w'.al.take n = _
    rw [e, List.take_append, List.take_of_length_le h]
  · obtain ⟨h1, h2⟩ := g.im a o e z l
    exact ⟨h1, fun z => h2 (live_trunc z)⟩
end
/-- what a body's end may leave: what the promise says, cells of the body's own forgotten -/
def Fin (κ : Cs) (R : D → Cs → Prop) (d : D) (κ' : Cs) : Prop := R d κ' ∨ ∃ n, κ.length ≤ n ∧ blw n d = true ∧ (∀ (k : Nat) (c : Ce), (κ'.take n)[k]? = some (some c) → c.blw n = true) ∧ R d (κ'.take n)
def start (N : List Str) (ds : List D) : Rho := ds.map some ++ List.replicate (N.length - ds.length) none
/-- the cells are well made -/
def CsOk (κ : Cs) (ds : List D) : Prop := (∀ (k : Nat) (c : Ce), κ[k]? = some (some c) → c.blw κ.length = true) ∧ blws κ.length ds = true
/-- a body that keeps a promise -/
def Body (N : List Str) (t : AS) (G : Con) : Prop := ∀ (ds : List D) (κ : Cs) (R : D → Cs → Prop), CsOk κ ds → G ds κ R → t { nx := fun _ κ' => Fin κ R .non κ', rt := Fin κ R, bk := fun _ _ => False, ct := fun _ _ => False } (start N ds) κ
theorem st_start {K : Frag} {mg : MG} {w : Wd} {vs : List V} {ds : List D} (N : List Str) (r : Rps K mg w vs ds) : StOk K mg w (start N ds) (L2.start N vs) := by
  have l := r.length
  refine ⟨?_, fun i d e => ?_⟩
  · show (ds.map some ++ List.replicate (N.length - ds.length) none).length = (vs.map some ++ List.replicate (N.length - vs.length) none).length
    rw [List.length_append, List.length_append, List.length_map, List.length_map, List.length_replicate, List.length_replicate, l]
  · have e' : (ds.map some ++ List.replicate (N.length - ds.length) none)[i]? = some (some d) := e
    by_cases hi : i < ds.length
    · rw [List.getElem?_append_left (by rw [List.length_map]; exact hi), List.getElem?_map] at e'
      obtain ⟨d', e1, e2⟩ := Option.map_eq_some_iff.mp e'
      cases e2
      obtain ⟨v, e3, r3⟩ := r.get e1
      refine ⟨v, ?_, r3⟩
      show (vs.map some ++ List.replicate (N.length - vs.length) none)[i]? = some (some v)
      rw [List.getElem?_append_left (by rw [List.length_map, l]; exact hi), List.getElem?_map, e3]
      rfl
    · rw [List.getElem?_append_right (by rw [List.length_map]; omega), List.getElem?_replicate] at e'
      split at e' <;> cases e'
theorem fin_use {K : Frag} {mg : MG} {w w' : Wd} {R : D → Cs → Prop} {Q : VK} {d : D} {v : V} (ok : WOk K mg w) (f : Fin w.ce R d w'.ce) (t : To K mg w w') (r : Rp K mg w' v d)
    (k : ∀ d w' v, R d w'.ce → To K mg w w' → Rp K mg w' v d → Q v w'.H) : Q v w'.H := by
  rcases f with f | ⟨n, hn, b, hb, f⟩
  · exact k d w' v f t r
  · exact k d (w'.trunc n) v f ⟨gr_trunc t.gr (by rw [ok.len]; exact hn), t.hid, ok_trunc t.ok hb⟩ (r.trunc b)
section
variable {P : Program} {w : World} {K : Frag} {mg : Str → Option Value} {base : Heap}
/-- THE RULE for a def -/
theorem fn_pd {x qual : Str} {st : Stmt} {f : Addr} {fd : FuncData} {N ps : List Str} {k : Nat} {G : Con} {t : AS} (F : Fun K x qual st f fd) (S : FnScope N ps (defScope st)) (len : ∀ ds κ R, G ds κ R → ds.length = ps.length)
    (hd : ∀ (cdv : Value) (A : Around) (outer : List Env) (s : Shared) (H : Hp) (E : XK), Room k (A.deeper (envOfC qual (defScope st) s.heap.objs.size f cdv)) →
      QSs Θ (cxOf CX0 P w K mg base N qual (defScope st) f cdv A outer s H E).nox (defBody st) t) (hb : Body N t G) : FnOk P w K mg base CX0 (k + 1) f fd ps (spOf K ⟨mg, w, Θ⟩ G) := by
  refine F.ok S (fun vs H Q E h => ?_) (fun cdv A outer s H vs Q E hr h => ⟨_, hd cdv A outer s H E hr, ?_⟩)
  · obtain ⟨w, ds, R, _, _, r, h, _⟩ := h
    rw [r.length]
    exact len _ _ _ h
  · obtain ⟨w, ds, R, rfl, ok, r, h, k⟩ := h
    have co : CsOk w.ce ds := ⟨fun k c e => ok.blw e, by rw [← ok.len]; exact r.blw⟩
    refine ⟨w, PD.start N ds, _, rfl, ok, st_start N r, hb ds w.ce R co h, ⟨fun ρ w' σ hu t' s' => ?_, fun d w' v hu t' r' => ?_, fun _ _ _ hu _ _ => hu.elim, fun _ _ _ hu _ _ => hu.elim⟩⟩
    · exact fin_use (Q := Q) ok hu t' .non k
    · exact fin_use (Q := Q) ok hu t' r' k
end
end PD
set_option Elab.async false
set_option linter.all false
set_option maxRecDepth 100000
set_option maxHeartbeats 4000000
/-! PD, part 7: sorted of data; zip gathered. -/
namespace ZC
open PySem PySem.W PySem.Calls PyProof.Rows PyProof.V PySem.Spec

theorem nolen_zip : typeLookup (.type "zip") "__len__" = pure none := by rw [typeLookup_type, builtinLookup_eq_fast]; kernel_rfl
theorem nohint_zip : typeLookup (.type "zip") "__length_hint__" = pure none := by rw [typeLookup_type, builtinLookup_eq_fast]; kernel_rfl

/-- pairs, in order, at rising addresses from lo on -/
structure Prs (xs ys : Array Value) (lo : Addr) (h : Heap) (as : List Addr) : Prop where
  above : ∀ a ∈ as, lo ≤ a
  pairs : ∀ (j : Nat) (a : Addr), as[j]? = some a → ∃ x y, xs[j]? = some x ∧ ys[j]? = some y ∧ IsPair h a x y
theorem Prs.there {xs ys : Array Value} {lo : Addr} {h : Heap} {as : List Addr} (g : Prs xs ys lo h as) {a : Addr} (ha : a ∈ as) : a < h.objs.size := by
  obtain ⟨j, hj⟩ := List.mem_iff_getElem?.mp ha
  obtain ⟨_, _, _, _, e⟩ := g.pairs j a hj
  exact Heap.lt_size e
/-- the zip's state ahead of turn i -/
def St (z TI TO i1 i2 l1 l2 S : Addr) (xs ys : Array Value) (i : Nat) (h : Heap) : Prop :=
  IsPair h TI (.ref i1) (.ref i2) ∧ h.IsListIter i1 l1 i ∧ h.IsListIter i2 l2 i ∧ h.IsList l1 xs ∧ h.IsList l2 ys ∧
    ((IsZip h z TI TO .none ∧ ∃ a b, IsPair h TO a b) ∨ ∃ T f oT, IsZipHeld h z TI TO T f ∧ h.get? T = some oT ∧ T ≠ z ∧ T ≠ i1 ∧ T ≠ i2 ∧ T ≠ S)
/-- what lies below lo -/
structure Low (z TI TO i1 i2 l1 l2 S lo : Addr) : Prop where
  bz : z < lo
  bTI : TI < lo
  bTO : TO < lo
  b1 : i1 < lo
  b2 : i2 < lo
  c1 : l1 < lo
  c2 : l2 < lo
  bS : S < lo
  Sz : S ≠ z
  STI : S ≠ TI
  STO : S ≠ TO
  Si1 : S ≠ i1
  Si2 : S ≠ i2
  Sl1 : S ≠ l1
  Sl2 : S ≠ l2
section
variable {prog : Program} {w : World} {A : Around} {E : Value → Shared → Prop} {s : Shared} {z TI TO i1 i2 l1 l2 S lo : Addr} {xs ys : Array Value}
theorem St.keep {i : Nat} {h h' : Heap} (L : Low z TI TO i1 i2 l1 l2 S lo) (st : St z TI TO i1 i2 l1 l2 S xs ys i h) (hk : ∀ b o, b ≠ S → h.get? b = some o → h'.get? b = some o) : St z TI TO i1 i2 l1 l2 S xs ys i h' := by
  obtain ⟨hTI, h1, h2, hl1, hl2, hz⟩ := st
  refine ⟨hk _ _ (Ne.symm L.STI) hTI, h1.at fun o e => hk _ o (Ne.symm L.Si1) e, h2.at fun o e => hk _ o (Ne.symm L.Si2) e, hl1.at fun o e => hk _ o (Ne.symm L.Sl1) e, hl2.at fun o e => hk _ o (Ne.symm L.Sl2) e, ?_⟩
  rcases hz with ⟨hz, a, b, hTO⟩ | ⟨T, f, oT, hz, hT, r1, r2, r3, r4⟩
  · exact .inl ⟨hk _ _ (Ne.symm L.Sz) hz, a, b, hk _ _ (Ne.symm L.STO) hTO⟩
  · exact .inr ⟨T, f, oT, hk _ _ (Ne.symm L.Sz) hz, hk _ _ r4 hT, r1, r2, r3, r4⟩
theorem st_item {i : Nat} {Q : Option Value → Shared → Prop} (D : ZipApart z TI TO i1 i2 l1 l2) (st : St z TI TO i1 i2 l1 l2 S xs ys i s.heap) (hi : i < min xs.size ys.size) (hS : S < s.heap.objs.size)
    (hQ : ∀ h', St z TI TO i1 i2 l1 l2 S xs ys (i + 1) h' → (∃ x y, xs[i]? = some x ∧ ys[i]? = some y ∧ IsPair h' s.heap.objs.size x y) → h'.objs.size = s.heap.objs.size + 1 →
      (∀ b o, b ≠ z → b ≠ TO → b ≠ i1 → b ≠ i2 → s.heap.get? b = some o → h'.get? b = some o) → Q (some (.ref s.heap.objs.size)) { s with heap := h' }) :
    wpAny (model prog w) A (pyNext (.ref z)) Q E s := by
  obtain ⟨hTI, h1, h2, hl1, hl2, hz⟩ := st
  have hix : i < xs.size := Nat.lt_of_lt_of_le hi (Nat.min_le_left ..)
  have hiy : i < ys.size := Nat.lt_of_lt_of_le hi (Nat.min_le_right ..)
  have ex := Array.getElem?_eq_getElem hix
  have ey := Array.getElem?_eq_getElem hiy
  have lt : ∀ {c o}, s.heap.get? c = some o → s.heap.objs.size ≠ c := fun e => Nat.ne_of_gt (Heap.lt_size e)
  have n1 : s.heap.objs.size ≠ i1 := let ⟨_, e, _⟩ := h1; lt e
  have n2 : s.heap.objs.size ≠ i2 := let ⟨_, e, _⟩ := h2; lt e
  rcases hz with ⟨hz, a, b, hTO⟩ | ⟨T, f, oT, hz, hT, r1, r2, r3, r4⟩
  · refine wpAny_pyNext_zip_item D hz hTI hTO h1 h2 hl1 hl2 ex ey fun h' a1 a2 a3 a4 a5 a6 hk => ?_
    exact hQ h' ⟨hk _ _ D.TIz D.TITO D.TIi1 D.TIi2 hTI, a3, a4, hl1.at fun o e => hk _ o D.l1z D.l1TO D.l1i1 D.l1i2 e, hl2.at fun o e => hk _ o D.l2z D.l2TO D.l2i1 D.l2i2 e,
      .inr ⟨s.heap.objs.size, false, _, a1, a5, lt hz, n1, n2, Nat.ne_of_gt hS⟩⟩ ⟨_, _, ex, ey, a5⟩ a6 hk
  · refine wpAny_pyNext_zip_item_held D hz hT hTI h1 h2 hl1 hl2 ex ey fun h' a1 a3 a4 a5 a6 hk => ?_
    exact hQ h' ⟨hk _ _ D.TIz D.TIi1 D.TIi2 hTI, a3, a4, hl1.at fun o e => hk _ o D.l1z D.l1i1 D.l1i2 e, hl2.at fun o e => hk _ o D.l2z D.l2i1 D.l2i2 e,
      .inr ⟨T, true, oT, a1, hk _ _ r1 r2 r3 hT, r1, r2, r3, r4⟩⟩ ⟨_, _, ex, ey, a5⟩ a6 fun b o b1 _ b3 b4 e => hk b o b1 b3 b4 e
theorem st_done {Q : Option Value → Shared → Prop} (hh : A.handled = none) (D : ZipApart z TI TO i1 i2 l1 l2) (st : St z TI TO i1 i2 l1 l2 S xs ys (min xs.size ys.size) s.heap)
    (hQ : ∀ h', (∀ b o, b ≠ z → b ≠ TO → b ≠ i1 → b ≠ i2 → s.heap.get? b = some o → h'.get? b = some o) → Q none { s with heap := h' }) : wpAny (model prog w) A (pyNext (.ref z)) Q E s := by
  obtain ⟨hTI, h1, h2, hl1, hl2, hz⟩ := st
  have hend : xs[min xs.size ys.size]? = none ∨ ys[min xs.size ys.size]? = none := by
    rcases Nat.le_total xs.size ys.size with h | h
    · exact .inl (Array.getElem?_eq_none (by rw [Nat.min_eq_left h]; exact Nat.le_refl _))
    · exact .inr (Array.getElem?_eq_none (by rw [Nat.min_eq_right h]; exact Nat.le_refl _))
  rcases hz with ⟨hz, a, b, hTO⟩ | ⟨T, f, oT, hz, hT, r1, r2, r3, r4⟩
  · exact wpAny_pyNext_zip_end hh D hz hTI hTO h1 h2 hl1 hl2 hend hQ
  · exact wpAny_pyNext_zip_end_held hh D hz hT hTI h1 h2 hl1 hl2 hend fun h' hk => hQ h' fun b o b1 _ b3 b4 e => hk b o b1 b3 b4 e
end
section
variable {prog : Program} {w : World} {A : Around} {s : Shared} {R : Result → Shared → Prop} {z TI TO i1 i2 l1 l2 S lo : Addr} {xs ys : Array Value}
theorem loop (hh : A.handled = none) (D : ZipApart z TI TO i1 i2 l1 l2) (L : Low z TI TO i1 i2 l1 l2 S lo) (hn : min xs.size ys.size ≤ sizeLine) (res : Value) {h₁ : Heap}
    (hR : ∀ h' tk acc c as, (∀ b o, b ≠ S → b ≠ z → b ≠ TO → b ≠ i1 → b ≠ i2 → h₁.get? b = some o → h'.get? b = some o) → h'.get? S = some { cls := .type "list", dict := none, data := .seq acc c, slots := #[] } → as.length = min xs.size ys.size → Prs xs ys lo h' as →
      acc.toList = as.map Value.ref → R (.ok (.ret res)) { s with heap := h', toks := tk }) :
    ∀ (k i : Nat) (h : Heap) (tk c : Nat) (acc : Array Value) (as : List Addr), min xs.size ys.size - i = k → i ≤ min xs.size ys.size → St z TI TO i1 i2 l1 l2 S xs ys i h → (∀ b o, b ≠ S → b ≠ z → b ≠ TO → b ≠ i1 → b ≠ i2 → h₁.get? b = some o → h.get? b = some o) →
      h.get? S = some { cls := .type "list", dict := none, data := .seq acc c, slots := #[] } → acc.toList = as.map Value.ref → as.length = i → Prs xs ys lo h as → lo ≤ h.objs.size →
      codeAny (model prog w) A (.builtin "list.extend.loop" ⟨[.ref S, .ref z, res], []⟩) R { s with heap := h, toks := tk } := by
  intro k
  induction k with
  | zero =>
    intro i h tk c acc as hk hi hst hkeep hS hacc hal hG hIs
    have hin : i = min xs.size ys.size := by omega
    refine codeAny_builtin PySem.F.entry_extend_loop ?_
    rw [Around.under_plainId PySem.F.plain_extend_loop _]
    show wpAny _ A.in1 (pyNext (.ref z) >>= _) _ _ _
    rw [hin] at hst
    refine wpAny_bind (st_done (s := { s with heap := h, toks := tk }) (A := A.in1) hh D hst fun h' he => ?_)
    refine wpAny_pure (hR h' tk acc c as (fun b o h1 h2 h3 h4 h5 e => he b o h2 h3 h4 h5 (hkeep b o h1 h2 h3 h4 h5 e)) (he S _ L.Sz L.STO L.Si1 L.Si2 hS) (by omega) ⟨hG.above, fun j a hj => ?_⟩ hacc)
    obtain ⟨x, y, e1, e2, e3⟩ := hG.pairs j a hj
    have ha := hG.above a (List.mem_of_getElem? hj)
    exact ⟨x, y, e1, e2, he a _ (Nat.ne_of_gt (Nat.lt_of_lt_of_le L.bz ha)) (Nat.ne_of_gt (Nat.lt_of_lt_of_le L.bTO ha)) (Nat.ne_of_gt (Nat.lt_of_lt_of_le L.b1 ha)) (Nat.ne_of_gt (Nat.lt_of_lt_of_le L.b2 ha)) e3⟩
  | succ k ih =>
    intro i h tk c acc as hk hi hst hkeep hS hacc hal hG hIs
    have hlt : i < min xs.size ys.size := by omega
    have hsz : acc.size = i := by rw [← Array.length_toList, hacc, List.length_map, hal]
    refine codeAny_builtin PySem.F.entry_extend_loop ?_
    rw [Around.under_plainId PySem.F.plain_extend_loop _]
    show wpAny _ A.in1 (pyNext (.ref z) >>= _) _ _ _
    refine wpAny_bind (st_item (s := { s with heap := h, toks := tk }) (S := S) D hst hlt (Heap.lt_size hS) fun h' hst' ht hz hkp => ?_)
    dsimp only at ht hz hkp ⊢
    obtain ⟨x, y, ex, ey, ht⟩ := ht
    have hS' := hkp S _ L.Sz L.STO L.Si1 L.Si2 hS
    have up : ∀ b o, b ≠ S → h'.get? b = some o → (h'.update S (Obj.mapSeq (·.push (Value.ref h.objs.size)))).get? b = some o := fun b o hb e => (Heap.get?_update_other _ _ (Ne.symm hb)).trans e
    have hSl : S < h.objs.size := Heap.lt_size hS
    show wpAny _ A.in1 (updateSeq S (·.push (Value.ref h.objs.size)) >>= _) _ _ _
    refine wpAny_bind ?_
    refine wpAny_updateSeq hS' rfl (wpAny_pure ⟨plainId_quiet PySem.F.plain_extend_loop _, ih (i + 1) _ tk _ (acc.push (Value.ref h.objs.size)) (as ++ [h.objs.size]) (by omega) hlt (hst'.keep L up)
      (fun b o h1 h2 h3 h4 h5 e => up b o h1 (hkp b o h2 h3 h4 h5 (hkeep b o h1 h2 h3 h4 h5 e))) (Heap.get?_update_self _ hS' rfl) (by rw [Array.toList_push, hacc, List.map_append]; rfl) (by rw [List.length_append, hal]; rfl) ⟨?_, ?_⟩ ?_⟩) (by rw [hsz]; omega) (by show (acc.push (Value.ref h.objs.size)).size ≤ sizeLine + 1; rw [Array.size_push, hsz]; omega)
    · intro a ha
      rcases List.mem_append.mp ha with ha | ha
      · exact hG.above a ha
      · rw [List.mem_singleton.mp ha]; exact hIs
    · intro j b hj
      rcases Nat.lt_trichotomy j as.length with h1 | h1 | h1
      · rw [List.getElem?_append_left h1] at hj
        obtain ⟨x, y, e1, e2, e3⟩ := hG.pairs j b hj
        have hb := hG.above b (List.mem_of_getElem? hj)
        exact ⟨x, y, e1, e2, up b _ (Nat.ne_of_gt (Nat.lt_of_lt_of_le L.bS hb)) (hkp b _ (Nat.ne_of_gt (Nat.lt_of_lt_of_le L.bz hb)) (Nat.ne_of_gt (Nat.lt_of_lt_of_le L.bTO hb)) (Nat.ne_of_gt (Nat.lt_of_lt_of_le L.b1 hb)) (Nat.ne_of_gt (Nat.lt_of_lt_of_le L.b2 hb)) e3)⟩
      · subst h1
        have hb : h.objs.size = b := by simpa using hj
        subst hb
        subst hal
        exact ⟨x, y, ex, ey, up _ _ (Nat.ne_of_gt hSl) ht⟩
      · have hnone : (as ++ [h.objs.size])[j]? = none := List.getElem?_eq_none (by rw [List.length_append, List.length_singleton]; omega)
        rw [hnone] at hj; cases hj
    · have e : (h'.update S (Obj.mapSeq (·.push (Value.ref h.objs.size)))).get? h.objs.size = _ := up _ _ (Nat.ne_of_gt hSl) ht
      exact Nat.le_trans hIs (Nat.le_of_lt (Heap.lt_size e))
end
section
variable {prog : Program} {w : World} {A : Around} {E : Value → Shared → Prop} {s : Shared} {z TI TO i1 i2 l1 l2 : Addr} {xs ys : Array Value}
theorem collect_zip {R : List Value → Shared → Prop} (hh : A.handled = none) (D : ZipApart z TI TO i1 i2 l1 l2) (hz : IsZip s.heap z TI TO .none) (hTI : IsPair s.heap TI (.ref i1) (.ref i2)) (hTO : ∃ a b, IsPair s.heap TO a b)
    (h1 : s.heap.IsListIter i1 l1 0) (h2 : s.heap.IsListIter i2 l2 0) (hl1 : s.heap.IsList l1 xs) (hl2 : s.heap.IsList l2 ys) (hn : min xs.size ys.size ≤ sizeLine)
    (h : ∀ (h' : Heap) (tk : Nat) (as : List Addr), (∀ b o, b ≠ z → b ≠ TO → b ≠ i1 → b ≠ i2 → s.heap.get? b = some o → h'.get? b = some o) → as.length = min xs.size ys.size → Prs xs ys s.heap.objs.size h' as → s.heap.objs.size ≤ h'.objs.size → R (as.map Value.ref) { s with heap := h', toks := tk }) :
    wpAny (model prog w) A (collect (.ref z)) R E s := by
  obtain ⟨ta, tb, hTO⟩ := hTO
  have lz : z < s.heap.objs.size := Heap.lt_size hz
  have lTI : TI < s.heap.objs.size := Heap.lt_size hTI
  have lTO : TO < s.heap.objs.size := Heap.lt_size hTO
  have li1 : i1 < s.heap.objs.size := let ⟨_, e, _⟩ := h1; Heap.lt_size e
  have li2 : i2 < s.heap.objs.size := let ⟨_, e, _⟩ := h2; Heap.lt_size e
  have ll1 : l1 < s.heap.objs.size := let ⟨_, e, _⟩ := hl1; Heap.lt_size e
  have ll2 : l2 < s.heap.objs.size := let ⟨_, e, _⟩ := hl2; Heap.lt_size e
  have L : Low z TI TO i1 i2 l1 l2 s.heap.objs.size (s.heap.objs.size + 1) := ⟨Nat.lt_succ_of_lt lz, Nat.lt_succ_of_lt lTI, Nat.lt_succ_of_lt lTO, Nat.lt_succ_of_lt li1, Nat.lt_succ_of_lt li2, Nat.lt_succ_of_lt ll1, Nat.lt_succ_of_lt ll2, Nat.lt_succ_self _,
    Nat.ne_of_gt lz, Nat.ne_of_gt lTI, Nat.ne_of_gt lTO, Nat.ne_of_gt li1, Nat.ne_of_gt li2, Nat.ne_of_gt ll1, Nat.ne_of_gt ll2⟩
  unfold collect
  refine wpAny_bind (wpAny_runValue (codeAny_builtin entry_proto_collect' ?_))
  rw [Around.under_plainId PySem.F.plain_proto_collect _]
  show wpAny _ A.in1 (newList [] >>= fun l => again (.builtin "list.__iadd__" ⟨[l, .ref z], []⟩)) _ _ s
  refine wpAny_bind (wpAny_newObj_type ?_)
  refine wpAny_pure ⟨plainId_quiet PySem.F.plain_list_iadd _, codeAny_builtin entry_list_iadd' ?_⟩
  rw [Around.under_plainId PySem.F.plain_list_iadd _]
  have hS₁ : (s.heap.push { cls := .type "list", data := .seq ([] : List Value).toArray }).get? s.heap.objs.size = some { cls := .type "list", data := .seq #[] } := Heap.get?_push_size _ rfl
  have kp : ∀ b o, s.heap.get? b = some o → (s.heap.push { cls := .type "list", data := .seq ([] : List Value).toArray }).get? b = some o := fun b o e => Heap.get?_push_of_some _ e
  have hz₁ := kp _ _ hz
  have hT₁ : ({ s with heap := s.heap.push { cls := .type "list", data := .seq ([] : List Value).toArray } } : Shared).TypeIs (.ref z) "zip" := ⟨_, hz₁, rfl⟩
  show wpAny _ A.in1 (Builtin.List.listExtendWith (.ref s.heap.objs.size) (.ref z) (.ref s.heap.objs.size)) _ _ _
  unfold Builtin.List.listExtendWith
  refine wpAny_bind (wpAny_typeOf hT₁ ?_)
  have e1 : Builtin.List.listSameRef (.ref s.heap.objs.size) (.ref z) = false := by simp [Builtin.List.listSameRef, Nat.ne_of_gt lz]
  have e2 : (Value.type "zip" == Value.type "list") = false := by decide
  have e3 : (Value.type "zip" == Value.type "tuple") = false := by decide
  simp only [e1, e2, e3, Bool.or_false, Bool.false_eq_true, if_false]
  refine wpAny_bind (wpAny_pyIter_zip (s := { s with heap := s.heap.push { cls := .type "list", data := .seq ([] : List Value).toArray } }) hz₁ ?_)
  refine wpAny_bind (wpAny_holding ?_)
  unfold Builtin.List.listLengthHint
  refine wpAny_bind (wpAny_specialOf hT₁ nolen_zip ?_)
  show wpAny _ A.in1 (specialOf (Value.ref z) (Str.ofString "__length_hint__") >>= _) _ _ _
  refine wpAny_bind (wpAny_specialOf hT₁ nohint_zip ?_)
  refine wpAny_pure ?_
  show wpAny _ A.in1 (rule "list.extend.makes-room" >>= fun _ => Builtin.List.listTouch (.ref s.heap.objs.size) >>= fun _ =>
    again (.builtin "list.extend.loop" ⟨[.ref s.heap.objs.size, .ref z, .ref s.heap.objs.size], []⟩)) _ _ _
  refine wpAny_bind (wpAny_rule ?_)
  refine wpAny_bind ?_
  show wpAny _ A.in1 (updateSeq s.heap.objs.size (·.push .none) >>= fun _ => updateSeq s.heap.objs.size (·.pop)) _ _ _
  refine wpAny_bind (wpAny_updateSeq hS₁ rfl ?_)
  have hS₂ := Heap.get?_update_self (Obj.mapSeq (·.push Value.none)) hS₁ rfl
  refine wpAny_updateSeq hS₂ rfl ?_
  have hS₃ := Heap.get?_update_self (Obj.mapSeq (·.pop)) hS₂ rfl
  have oth : ∀ b o, b ≠ s.heap.objs.size → s.heap.get? b = some o →
      (((s.heap.push { cls := .type "list", data := .seq ([] : List Value).toArray }).update s.heap.objs.size (Obj.mapSeq (·.push Value.none))).update s.heap.objs.size (Obj.mapSeq (·.pop))).get? b = some o :=
    fun b o hb e => (Heap.get?_update_other _ _ (Ne.symm hb)).trans ((Heap.get?_update_other _ _ (Ne.symm hb)).trans (kp b o e))
  have old : ∀ {b o}, s.heap.get? b = some o → b ≠ s.heap.objs.size := fun e => Nat.ne_of_lt (Heap.lt_size e)
  refine wpAny_pure ⟨plainId_quiet PySem.F.plain_extend_loop _, loop (s := s) (h₁ := s.heap) hh D L hn (.ref s.heap.objs.size) (fun h' tk acc c as hk hS' hl hG hacc => ?_)
    (min xs.size ys.size) 0 _ _ _ #[] [] (Nat.sub_zero _) (Nat.zero_le _) ⟨oth _ _ (old hTI) hTI, h1.at fun o e => oth _ o (old e) e, h2.at fun o e => oth _ o (old e) e, hl1.at fun o e => oth _ o (old e) e, hl2.at fun o e => oth _ o (old e) e, .inl ⟨oth _ _ (old hz) hz, ta, tb, oth _ _ (old hTO) hTO⟩⟩
    (fun b o hb _ _ _ _ e => oth b o hb e) hS₃ rfl rfl ⟨(fun _ ha => nomatch ha), (fun j a hj => by simp at hj)⟩ (Heap.lt_size hS₃)⟩
  show wpAny _ A (load s.heap.objs.size >>= _) _ _ _
  refine wpAny_bind (wpAny_load hS' ?_)
  refine wpAny_pure ?_
  show R acc.toList _
  rw [hacc]
  exact h h' tk as (fun b o b1 b2 b3 b4 e => hk b o (old e) b1 b2 b3 b4 e) hl ⟨fun a ha => Nat.le_trans (Nat.le_succ _) (hG.above a ha), hG.pairs⟩ (Nat.le_of_lt (Heap.lt_size hS'))
end
end ZC
set_option Elab.async false
set_option linter.all false
set_option maxRecDepth 100000
set_option maxHeartbeats 4000000
/-! PD, part 8: sorted(zip(xs, ys)) of ints. -/
namespace ZC
open PySem PySem.W PySem.Calls PyProof.Rows PyProof.V PySem.Spec
def leP (p q : Int × Int) : Bool := decide (p.1 < q.1 ∨ (p.1 = q.1 ∧ p.2 ≤ q.2))
def sortP (ps : List (Int × Int)) : List (Int × Int) := ps.mergeSort leP
/-- a value is the pair q, a tuple at one of as -/
def PairV (h : Heap) (as : List Addr) (v : Value) (q : Int × Int) : Prop := ∃ t x y, v = .ref t ∧ t ∈ as ∧ IsPair h t (.int q.1 x) (.int q.2 y)
section
variable {prog : Program} {w : World} {A : Around} {E : Value → Shared → Prop} {s : Shared} {z TI TO i1 i2 l1 l2 : Addr}
theorem each_pairs {h : Heap} {lo : Addr} {us vs : List Value} {ns ms : List Int} (iu : IntsAre us ns) (iv : IntsAre vs ms) : ∀ (as0 as : List Addr) (k : Nat), as.length = min (ns.length - k) (ms.length - k) → (∀ a ∈ as, a ∈ as0) →
    (∀ (j : Nat) (a : Addr), as[j]? = some a → ∃ x y, us[k + j]? = some x ∧ vs[k + j]? = some y ∧ IsPair h a x y) → EachIs (PairV h as0) (as.map Value.ref) ((ns.drop k).zip (ms.drop k)) := by
  intro as0 as
  induction as with
  | nil =>
    intro k hl hm hp
    have e : (ns.drop k).zip (ms.drop k) = [] := by
      apply List.eq_nil_of_length_eq_zero
      rw [List.length_zip, List.length_drop, List.length_drop]
      exact hl.symm
    rw [e]
    exact .nil
  | cons a as ih =>
    intro k hl hm hp
    have h1 : k < ns.length := by rw [List.length_cons] at hl; omega
    have h2 : k < ms.length := by rw [List.length_cons] at hl; omega
    rw [List.drop_eq_getElem_cons h1, List.drop_eq_getElem_cons h2, List.zip_cons_cons]
    obtain ⟨x, y, e1, e2, e3⟩ := hp 0 a rfl
    obtain ⟨t, rfl⟩ : ∃ t, x = Value.int ns[k] t := by
      have q := (L2.vals_ints iu).get (i := k) (x := L2.V.int ns[k]) (by rw [List.getElem?_map, List.getElem?_eq_getElem h1]; rfl)
      obtain ⟨u, hu, t, hr⟩ := q
      rw [Nat.add_zero, hu] at e1
      cases e1
      exact ⟨t, hr⟩
    obtain ⟨t', rfl⟩ : ∃ t, y = Value.int ms[k] t := by
      have q := (L2.vals_ints iv).get (i := k) (x := L2.V.int ms[k]) (by rw [List.getElem?_map, List.getElem?_eq_getElem h2]; rfl)
      obtain ⟨u, hu, t, hr⟩ := q
      rw [Nat.add_zero, hu] at e2
      cases e2
      exact ⟨t, hr⟩
    refine .cons ⟨a, t, t', rfl, hm a List.mem_cons_self, e3⟩ (ih (k + 1) ?_ (fun b hb => hm b (List.mem_cons_of_mem _ hb)) fun j b hj => ?_)
    · rw [List.length_cons] at hl
      omega
    · have q := hp (j + 1) b (by simpa using hj)
      rw [show k + (j + 1) = k + 1 + j by omega] at q
      exact q
theorem each_left {α β : Type} {R : α → β → Prop} : ∀ {xs : List α} {ys : List β}, EachIs R xs ys → ∀ x ∈ xs, ∃ y, R x y
  | _, _, .nil, _, h => nomatch h
  | _, _, .cons r t, x, h => by
    rcases List.mem_cons.mp h with e | h
    · subst e
      exact ⟨_, r⟩
    · exact each_left t x h
theorem reads_pair {h : Heap} {as : List Addr} {v : Value} {q : Int × Int} (p : PairV h as v q) : ∃ bs, Reads h v (.tuple [.int q.1, .int q.2]) bs ∧ bs = [] := by
  obtain ⟨t, x, y, rfl, _, e⟩ := p
  exact ⟨_, .tuple e rfl rfl (.cons (.int _ _) (.cons (.int _ _) .nil)), rfl⟩
theorem sorted_zip {us vs : List Value} {ns ms : List Int} {Q : Value → Shared → Prop} (hh : A.handled = none) (D : ZipApart z TI TO i1 i2 l1 l2) (hz : IsZip s.heap z TI TO .none) (hTI : IsPair s.heap TI (.ref i1) (.ref i2)) (hTO : ∃ a b, IsPair s.heap TO a b)
    (h1 : s.heap.IsListIter i1 l1 0) (h2 : s.heap.IsListIter i2 l2 0) (hl1 : s.heap.IsList l1 us.toArray) (hl2 : s.heap.IsList l2 vs.toArray) (iu : IntsAre us ns) (iv : IntsAre vs ms) (hn : ns.length ≤ 1000) (hu : A.units + 10 < cLine)
    (h : ∀ (h' : Heap) (tk : Nat) (as : List Addr) (out : List Value) (p : Addr) (e : Nat), (∀ b o, b ≠ z → b ≠ TO → b ≠ i1 → b ≠ i2 → s.heap.get? b = some o → h'.get? b = some o) → (∀ a ∈ as, s.heap.objs.size ≤ a) → s.heap.objs.size ≤ p → p ∉ as →
      EachIs (PairV h' as) out (sortP (ns.zip ms)) → h'.get? p = some (seqObj "list" out.toArray e) → (∀ a ∈ as, ∃ x y t u, IsPair h' a (.int x t) (.int y u)) → Q (.ref p) { s with heap := h', toks := tk }) :
    wpAny (model prog w) A (call (.builtin "sorted") [.ref z]) Q E s := by
  have lu := iu.length
  have lv := iv.length
  refine call_function_entry kind_sorted plain_sorted entry_sorted (args_sorted1 _) ?_
  unfold Builtin.«sorted»
  refine wpAny_bind (m := checkCount "sorted" 1 1 _) (wpAny_pure ?_)
  have hL : min us.toArray.size vs.toArray.size ≤ 1000 := by
    rw [List.size_toArray, List.size_toArray]
    omega
  have hLs : (1000 : Nat) ≤ sizeLine := by decide
  refine wpAny_bind (collect_zip (A := A.in1) hh D hz hTI hTO h1 h2 hl1 hl2 (Nat.le_trans hL hLs) fun h' tk as hk hl P hsz => ?_)
  have hal : as.length ≤ sizeLine := by rw [hl]; exact Nat.le_trans hL hLs
  refine wpAny_bind (wpAny_newList ?_ (by rw [List.length_map]; exact hal))
  have hL0 : (h'.push { cls := .type "list", data := .seq (as.map Value.ref).toArray }).get? h'.objs.size = some (seqObj "list" (as.map Value.ref).toArray 0) := Heap.get?_push_size _ rfl
  have ep : EachIs (PairV h' as) (as.map Value.ref) (ns.zip ms) := by
    have q := each_pairs (h := h') (lo := 0) iu iv as as 0 (by rw [hl, List.size_toArray, List.size_toArray]; omega) (fun _ m => m) fun j a hj => by
      obtain ⟨x, y, e1, e2, e3⟩ := P.pairs j a hj
      rw [Nat.zero_add]
      exact ⟨x, y, by simpa using e1, by simpa using e2, e3⟩
    simpa using q
  have hz0 : (ns.zip ms).length ≤ sizeLine := by rw [List.length_zip]; exact Nat.le_trans (Nat.le_trans (Nat.min_le_left _ _) hn) hLs
  refine wpAny_bind (wpAny_holding (list_sort_data (s := { s with heap := h'.push { cls := .type "list", data := .seq (as.map Value.ref).toArray }, toks := tk }) (R := PairV h' as) (enc := fun q : Int × Int => .tuple [.int q.1, .int q.2]) hL0 ep ?_ ?_ ?_ hz0 ?_ fun out ho eo => ?_))
  · exact ep.mono fun v q p => by
      obtain ⟨bs, r, rfl⟩ := reads_pair p
      exact ⟨[], PyProof.Rows.Reads.keeps (fun b o e => Heap.get?_push_of_some _ e) r, fun m => nomatch m⟩
  · exact AllAlike.of fun _ _ => by simp [alike, alikeAll]
  · exact Sortable.tuples fun _ => ⟨_, _, rfl⟩
  · intro b _
    have e : (PyData.tuple [.int b.1, .int b.2]).depth = 1 := by simp [PyData.depth, PyData.depthAll]
    rw [e]
    show A.units + 1 + 1 + 1 < cLine
    omega
  · rw [show (ns.zip ms).mergeSort (dataLe false fun q : Int × Int => .tuple [.int q.1, .int q.2]) = sortP (ns.zip ms) by rw [dataLe_ii]; rfl] at eo
    obtain ⟨e, he⟩ := sortedHeap_at (out := out.toArray) hL0
    have old : ∀ b o, h'.get? b = some o → (sortedHeap (h'.push { cls := .type "list", data := .seq (as.map Value.ref).toArray }) h'.objs.size (as.map Value.ref) out.toArray).get? b = some o := fun b o eb => by
      have lt := Heap.lt_size eb
      rw [sortedHeap_old (Nat.ne_of_lt lt) (by rw [Heap.size_push]; exact Nat.lt_succ_of_lt lt)]
      exact Heap.get?_push_of_some _ eb
    refine wpAny_pure ⟨_, rfl, h _ _ as out h'.objs.size e (fun b o b1 b2 b3 b4 eb => old b o (hk b o b1 b2 b3 b4 eb)) P.above hsz (fun m => absurd (P.there m) (Nat.lt_irrefl _)) (eo.mono fun v q ⟨t, x, y, e1, e2, e3⟩ => ⟨t, x, y, e1, e2, old _ _ e3⟩) he fun a ha => ?_⟩
    obtain ⟨q, t, x, y, e1, _, e3⟩ := each_left ep (Value.ref a) (List.mem_map.mpr ⟨a, ha, rfl⟩)
    cases e1
    exact ⟨_, _, x, y, old _ _ e3⟩
end
end ZC

namespace PD
open PySem PySem.Spec PyProof.Rows L2 ZC
open PySem.W (EachIs)
/-- pairs at new addresses, a list of them at p -/
structure Laid (H H' : Hp) (p : Addr) (xs : List V) (qs : List (Int × Int)) : Prop where
  old : ∀ b o, H b = some o → H' b = some o
  new : H p = none
  at_ : H' p = some (.lst xs)
  items : EachIs (fun (v : V) (q : Int × Int) => ∃ t, v = .ref t ∧ H' t = some (.tup [.int q.1, .int q.2])) xs qs
def tSortZ (K : Frag) (ta : TA) : TE := fun σ H Q => ta σ H fun vs H1 => ∃ (a b : Addr) (ns ms : List Int), vs = [.ref a, .ref b] ∧ SqL K H1 a (ns.map V.int) ∧ SqL K H1 b (ms.map V.int) ∧ ns.length ≤ 1000 ∧
  ∀ H' p xs, Laid H1 H' p xs (sortP (ns.zip ms)) → Q (.ref p) H'
def tupAt (h : Heap) (c : Addr) : HO := .tup (match h.get? c with
  | some o => match o.data with
    | .seq vs _ => vs.toList.filterMap absV
    | _ => []
  | none => [])
theorem tupAt_pair {h : Heap} {c : Addr} {x y : Int} {t u : Tok} (e : IsPair h c (.int x t) (.int y u)) : tupAt h c = .tup [.int x, .int y] := by
  unfold tupAt
  rw [e]
  rfl
theorem refs_of {h : Heap} {as : List Addr} : ∀ {out : List Value} {qs : List (Int × Int)}, EachIs (PairV h as) out qs → ∃ ts : List Addr, out = ts.map Value.ref ∧ EachIs (fun (t : Addr) (q : Int × Int) => t ∈ as ∧ ∃ x y, IsPair h t (.int q.1 x) (.int q.2 y)) ts qs
  | _, _, .nil => ⟨[], rfl, .nil⟩
  | _, _, .cons ⟨t, x, y, e1, e2, e3⟩ r => by
    obtain ⟨ts, e, q⟩ := refs_of r
    exact ⟨t :: ts, by rw [e1, e]; rfl, .cons ⟨e2, x, y, e3⟩ q⟩
theorem vals_refs : ∀ ts : List Addr, Vals (ts.map V.ref) (ts.map Value.ref)
  | [] => .nil
  | _ :: ts => .cons rfl (vals_refs ts)
theorem each_map_left {α β γ : Type} {R : γ → β → Prop} {f : α → γ} : ∀ {xs : List α} {ys : List β}, EachIs (fun x y => R (f x) y) xs ys → EachIs R (xs.map f) ys
  | _, _, .nil => .nil
  | _, _, .cons r t => .cons r (each_map_left t)
section
variable {X : Cx} {pins : List (Addr × Obj)} {σ : L2.St} {H : Hp} {s : Shared}
/-- many new tuples and a list are tracked at once -/
theorem Inv.many {h' : Heap} {tk : Nat} {as ts : List Addr} {p : Addr} {e : Nat} {qs : List (Int × Int)} (I : Inv X pins σ H s) (k : ∀ b o, s.heap.get? b = some o → h'.get? b = some o) (ha : ∀ a ∈ as, s.heap.objs.size ≤ a) (hp : s.heap.objs.size ≤ p) (np : p ∉ as)
    (hz : ts.length ≤ sizeLine) (eo : EachIs (fun (t : Addr) (q : Int × Int) => t ∈ as ∧ ∃ x y, IsPair h' t (.int q.1 x) (.int q.2 y)) ts qs) (hl : h'.get? p = some (seqObj "list" (ts.map Value.ref).toArray e)) (hall : ∀ a ∈ as, ∃ x y t u, IsPair h' a (.int x t) (.int y u)) :
    ∃ H', Inv X pins σ H' { s with heap := h', toks := tk } ∧ Laid H H' p (ts.map V.ref) qs := by
  let H' : Hp := fun c => if c = p then some (.lst (ts.map V.ref)) else if c ∈ as then some (tupAt h' c) else H c
  have hp' : H' p = some (.lst (ts.map V.ref)) := if_pos rfl
  have hold : ∀ b, b < s.heap.objs.size → H' b = H b := fun b hb => by
    have n1 : b ≠ p := Nat.ne_of_lt (Nat.lt_of_lt_of_le hb hp)
    have n2 : b ∉ as := fun m => absurd (Nat.lt_of_lt_of_le hb (ha b m)) (Nat.lt_irrefl _)
    show (if b = p then some (HO.lst (ts.map V.ref)) else if b ∈ as then some (tupAt h' b) else H b) = H b
    rw [if_neg n1, if_neg n2]
  have hof : ∀ b o, H b = some o → H' b = some o := fun b o q => (hold b (I.hok.lt q)).trans q
  have hin : ∀ c, c ∈ as → H' c = some (tupAt h' c) := fun c hc => by
    show (if c = p then some (HO.lst (ts.map V.ref)) else if c ∈ as then some (tupAt h' c) else H c) = _
    rw [if_neg (fun z => np (by rw [← z]; exact hc)), if_pos hc]
  have un : Un X.fs [] H H' s.heap h' := ⟨fun b o q _ _ _ => k b o q, fun b o q _ _ _ => ⟨o.slots, k b o q⟩, fun b o q n _ => (hold b (Heap.lt_size q)).trans n, fun b o q _ => ⟨o, k b o q⟩, fun b xs q => hof b _ q, fun b o u q => hof b _ q, fun b ps q => ⟨#[], by rw [hof b _ q]; simp⟩⟩
  have ok : HOk X.prog X.w H' h' := fun b u q => by
    by_cases h1 : b = p
    · subst h1
      rw [hp'] at q
      cases q
      exact ⟨by rw [List.length_map]; exact hz, ts.map Value.ref, e, vals_refs ts, hl⟩
    · by_cases h2 : b ∈ as
      · rw [hin b h2] at q
        cases q
        obtain ⟨x, y, t, u, eb⟩ := hall b h2
        rw [tupAt_pair eb]
        exact ⟨by show 2 ≤ sizeLine; decide, [.int x t, .int y u], .cons ⟨t, rfl⟩ (.cons ⟨u, rfl⟩ .nil), ⟨_, eb, rfl, _, rfl⟩⟩
      · have q' : H b = some u := by
          have z : H' b = H b := by
            show (if b = p then some (HO.lst (ts.map V.ref)) else if b ∈ as then some (tupAt h' b) else H b) = H b
            rw [if_neg h1, if_neg h2]
          rw [← z]
          exact q
        exact (I.hok b u q').stay (fun c v _ q => k c v q) (fun c q => hof c _ q) fun c xs q => hof c _ q
  refine ⟨H', I.un un ok, hof, I.hok.fresh hp, hp', each_map_left (eo.mono fun t q ⟨m, x, y, e1⟩ => ⟨t, rfl, ?_⟩)⟩
  rw [hin t m, tupAt_pair e1]
end
theorem boot_sorted : bootBuiltins "sorted" = some (.builtin "sorted") := by decide +kernel
theorem each_len {α β : Type} {R : α → β → Prop} {xs : List α} {ys : List β} (h : EachIs R xs ys) : xs.length = ys.length := h.length
section
variable {X : Cx} {a b : Expr} {ta : TA} {p p2 pos pos2 : Pos} {k : Nat}
theorem pe_sortZ (hc : X.calm = true) (hr : Room k X.A) (hm : X.mg "sorted" = none) (hm2 : X.mg "zip" = none) (ha : PA X [a, b] ta) (hg : Gl X "sorted" := by rfl) (hg2 : Gl X "zip" := by rfl)
    (he : starEach (.Call (.Name "zip" p2) [a, b] [] pos2 :: []) X.env = (false, eval (.Call (.Name "zip" p2) [a, b] [] pos2) X.env) :: starEach [] X.env := by rfl) (hpl : (backTo pos (starEach [] X.env)).any (·.1) = false := by rfl)
    (hs : starEach [a, b] X.env = (false, eval a X.env) :: starEach [b] X.env := by rfl) (hpl2 : (backTo pos2 (starEach [b] X.env)).any (·.1) = false := by rfl) :
    PE X (.Call (.Name "sorted" p) [.Call (.Name "zip" p2) [a, b] [] pos2] [] pos) (tSortZ X.K ta) := by
  refine ⟨fun pins s σ H Q I h => ?_⟩
  refine wpAny_Call_Name_kw (ld_blt I hg hm boot_sorted ?_)
  refine PyProof.Rows.callWith_builtin1 ?_ he hpl
  rw [he]
  show wpAny _ _ (spliced ((false, eval (.Call (.Name "zip" p2) [a, b] [] pos2) X.env) :: backTo pos (starEach [] X.env))) _ _ s
  refine Calls.spliced_cons ?_
  refine wpAny_Call_Name_kw (ld_blt I hg2 hm2 PyProof.Rows.boot_zip ?_)
  unfold tSortZ at h
  refine PyProof.Rows.callWith_type1 (thn (ha.run pos2 pins s σ H _ I h) fun us s1 ⟨vs, H1, I1, r1, q1⟩ => ?_) hs hpl2
  obtain ⟨l1, l2, ns, ms, ex, hqx, hqy, hn, q⟩ := q1
  subst ex
  cases r1 with
  | cons r rr =>
    cases rr with
    | cons r' rr =>
      cases rr
      cases r
      cases r'
      obtain ⟨its, rv, p1, _⟩ := I1.list hqx
      obtain ⟨its2, rv2, p3, _⟩ := I1.list hqy
      have la : l1 < s1.heap.objs.size := p1.lt
      have lb : l2 < s1.heap.objs.size := p3.lt
      refine call_zip_2 p1.isList p3.isList fun h1 hz hTI hTO hi1 hi2 hsz hk => ?_
      refine Calls.spliced_nil ?_
      have iu := hr.un
      refine sorted_zip (s := { s1 with heap := h1 }) (us := its) (vs := its2) hr.hd (PySem.W.ktu_apart s1.heap.objs.size l1 l2 la lb) hz hTI ⟨_, _, hTO⟩ hi1 hi2 (p1.isList.at fun o e => hk _ o e) (p3.isList.at fun o e => hk _ o e) rv.ints rv2.ints hn (by omega) fun h' tk as out p e hk2 has hp np eo hl hall => ?_
      obtain ⟨ts, rfl, eo2⟩ := refs_of eo
      have zs : s1.heap.objs.size ≤ h1.objs.size := by rw [hsz]; exact Nat.le_add_right _ _
      have ne : ∀ {b o} (j : Nat), s1.heap.get? b = some o → b ≠ s1.heap.objs.size + j := fun j e => Nat.ne_of_lt (Nat.lt_of_lt_of_le (Heap.lt_size e) (Nat.le_add_right _ _))
      obtain ⟨H', I', L⟩ := Inv.many (h' := h') (tk := tk) I1 (fun b o e => hk2 b o (ne 4 e) (ne 3 e) (Nat.ne_of_lt (Heap.lt_size e)) (ne 1 e) (hk b o e)) (fun a m => Nat.le_trans zs (has a m)) (Nat.le_trans zs hp) np
        (by rw [each_len eo2]; show (List.mergeSort _ _).length ≤ sizeLine; rw [List.length_mergeSort, List.length_zip]; exact Nat.le_trans (Nat.le_trans (Nat.min_le_left _ _) hn) (by decide)) eo2 hl hall
      exact ⟨.ref p, H', I', rfl, q H' p _ L⟩
end
section
variable {X : Cx} {a b : Expr} {ta : AA} {p p2 pos pos2 : Pos} {k : Nat}
def eP (q : Int × Int) : D := .tup [.int q.1, .int q.2]
def aSortZ (ta : AA) : AE := fun ρ κ R => ta ρ κ fun ds κ' => match ds with
  | [d, e] => ∃ ns ms : List Int, seqOf κ' d = some (ns.map D.int) ∧ seqOf κ' e = some (ms.map D.int) ∧ ns.length ≤ 1000 ∧ R (.lst ((sortP (ns.zip ms)).map eP)) κ'
  | _ => False
theorem rps_pairs {K : Frag} {mg : MG} {w : Wd} : ∀ {xs : List V} {qs : List (Int × Int)}, EachIs (fun (v : V) (q : Int × Int) => ∃ t, v = .ref t ∧ w.H t = some (.tup [.int q.1, .int q.2])) xs qs → Rps K mg w xs (qs.map eP)
  | _, _, .nil => .nil
  | _, _, .cons ⟨t, e1, e2⟩ r => by
    subst e1
    exact .cons (.tup (.inl (.inl e2)) (.cons (.int _) (.cons (.int _) .nil))) (rps_pairs r)
theorem to_same {K : Frag} {mg : MG} {w : Wd} {H' : Hp} (ok : WOk K mg w) (h : ∀ b o, w.H b = some o → H' b = some o) : To K mg w { w with H := H' } := by
  have g : Gr w { w with H := H' } := ⟨⟨[], by simp⟩, fun a o e _ n => ⟨h a o e, n⟩, fun a xs e => h a _ e, fun a o u e => h a _ e⟩
  refine ⟨g, rfl, ⟨ok.len, fun k c e => ?_, ok.inj, fun b u m => ⟨h b u (ok.hidH b u m).1, (ok.hidH b u m).2⟩, ok.hidC, ok.hidN, ok.tab_of g fun a ps e => h a _ e⟩⟩
  obtain ⟨b, e1, r⟩ := ok.at_ k c e
  obtain ⟨u, eu, _⟩ := r.some
  exact ⟨b, e1, r.mono_of g ((h b u eu).trans eu.symm)⟩
theorem q_sortZ (hc : X.calm = true) (hr : Room k X.A) (hm : X.mg "sorted" = none) (hm2 : X.mg "zip" = none) (ha : QA Θ X [a, b] ta) (hg : Gl X "sorted" := by rfl) (hg2 : Gl X "zip" := by rfl)
    (he : starEach (.Call (.Name "zip" p2) [a, b] [] pos2 :: []) X.env = (false, eval (.Call (.Name "zip" p2) [a, b] [] pos2) X.env) :: starEach [] X.env := by rfl) (hpl : (backTo pos (starEach [] X.env)).any (·.1) = false := by rfl)
    (hs : starEach [a, b] X.env = (false, eval a X.env) :: starEach [b] X.env := by rfl) (hpl2 : (backTo pos2 (starEach [b] X.env)).any (·.1) = false := by rfl) :
    QE Θ X (.Call (.Name "sorted" p) [.Call (.Name "zip" p2) [a, b] [] pos2] [] pos) (aSortZ ta) := (pe_sortZ hc hr hm hm2 ha hg hg2 he hpl hs hpl2).imp (by
  rintro σ H Q ⟨w, ρ, R, rfl, ok, st, h, k⟩
  refine ⟨w, ρ, _, rfl, ok, st, h, fun ds w1 vs h1 t1 r1 => ?_⟩
  split at h1
  · obtain ⟨ns, ms, e1, e2, hn, h1⟩ := h1
    obtain ⟨v, u, rfl, rv, ru⟩ := rps2 r1
    obtain ⟨l1, xs, rfl, hx, rx⟩ := seqOf_at t1.ok rv e1
    obtain ⟨l2, ys, rfl, hy, ry⟩ := seqOf_at t1.ok ru e2
    have ex := rx.ints_inv
    have ey := ry.ints_inv
    subst ex
    subst ey
    refine ⟨l1, l2, ns, ms, rfl, hx, hy, hn, fun H' p xs L => ?_⟩
    have t2 := to_same (K := X.K) (mg := (X.mgx Θ)) t1.ok L.old
    refine k (.lst ((sortP (ns.zip ms)).map eP)) { w1 with H := H' } (.ref p) h1 (t1.trans t2) (.lst L.at_ (fun z => ?_) (rps_pairs L.items))
    exact t1.ok.new L.new z
  · exact h1.elim)
end
end PD
set_option Elab.async false
set_option linter.all false
set_option maxRecDepth 100000
set_option maxHeartbeats 4000000
/-! PD, part 9: small rules; the words of a proof. -/
namespace PD
open PySem PySem.Spec PyProof.Rows L2
section
variable {X : Cx} {st : Stmt} {sts : List Stmt} {t : AS} {e : Expr} {pos : Pos} {x : Str}
/-- a slot's cell is data from here on -/
def aFrzV (i : Nat) (t : AS) : AS := fun A ρ κ => ∃ k c, ρ[i]? = some (some (.cell k)) ∧ κ[k]? = some (some c) ∧ t A (ρ.set i (some c.data)) (κ.set k none)
theorem qss_frz (i : Nat) (h : QSs Θ X sts t) : QSs Θ X sts (aFrzV i t) := h.imp (by
  rintro E σ H ⟨w, ρ, A, rfl, ok, st, ⟨k, c, e1, e2, h⟩, l⟩
  obtain ⟨v, e3, rv⟩ := st.at_ i _ e1
  cases rv with
  | @cell a _ ea =>
    have t1 : To X.K (X.mgx Θ) w (w.freeze k) := ⟨gr_freeze, rfl, ok_freeze ok⟩
    have hi : i < σ.length := (List.getElem?_eq_some_iff.mp e3).1
    have es : σ.set i (some (.ref a)) = σ := by
      apply List.ext_getElem?
      intro j
      by_cases hj : i = j
      · subst hj
        rw [List.getElem?_set_self hi, e3]
      · rw [List.getElem?_set_ne hj]
    refine ⟨w.freeze k, _, A, rfl, t1.ok, ?_, h, l.mono t1⟩
    have q := st_set (st.mono t1.gr) i (rp_freeze ok e2 ea)
    rw [es] at q
    exact q)
def aNever : AS := fun _ _ _ => False
theorem qs_never : QS Θ X st aNever := ps_never.imp (by
  rintro E σ H ⟨w, ρ, A, rfl, ok, st, h, l⟩
  exact h)
def aRetN : AS := fun A _ κ => A.rt .non κ
theorem qs_retN : QS Θ X (.Return none pos) aRetN := ps_retN.imp (by
  rintro E σ H ⟨w, ρ, A, rfl, ok, st, h, l⟩
  exact l.rt .non w .non h (.refl ok) .non)
theorem q_gI {i : Int} {tk : Tok} (hm : X.mg x = some (.int i tk)) (hg : Gl X x := by rfl) (hd : (x == ("__debug__" : Str)) = false := by decide) : QE Θ X (.Name x pos) (aC (.int i)) := q_globI hg hm hd
theorem q_cls {C : Addr} (hm : X.mg x = some (.ref C)) (hg : Gl X x := by rfl) (hd : (x == ("__debug__" : Str)) = false := by decide) : QE Θ X (.Name x pos) (aC (.fn x)) := by
  refine (pe_glob hg hm (v := .ref C) rfl hd).imp ?_
  rintro σ H Q ⟨w, ρ, R, rfl, ok, st, h, k⟩
  exact k _ w _ h (.refl ok) (.fn hm)
theorem g_tup {K : Frag} {mg : MG} {n : Nat} {gs : TGs} {ags : AGs} {vs : List Nat} (os : GsOk K mg gs ags vs) : GOk K mg (gTup K n gs) (aGTup n ags) vs := by
  intro w v d ρ σ R Q ok st r h k
  unfold aGTup at h
  split at h
  · obtain ⟨a, xs, rfl, ha, ra⟩ := rp_tup r
    exact ⟨a, xs, rfl, ha, by rw [ra.length]; exact h.1, os w xs _ ρ σ R Q ok st ra h.2 k⟩
  · exact h.elim
end
/-- the law's own promise, from the script -/
def c_script (ok : List Int → Prop) : Con := fun ds κ R => κ = [] ∧ ∃ ns : List Int, ds = [.scr ns] ∧ ok ns ∧ R (.bl true) []
theorem law_start {K : Frag} {mg : MG} {ok : List Int → Prop} {H : Hp} {a : Addr} {ns : List Int} {Q : VK} {E : XK} (hT : ∀ p ∈ mg.tb, H p.1 = some (.tbl #[])) (hS : SqL K H a (ns.map V.int)) (hn : ok ns) (hQ : ∀ H', Q (.bl true) H') : spOf K mg (c_script ok) [.ref a] H Q E := by
  have nl : ¬ (⟨[], [], [], H⟩ : Wd).live a := by
    rintro (⟨k, c, e, _⟩ | ⟨o, m⟩)
    · have e' : ([] : Cs)[k]? = some (some c) := e
      simp at e'
    · cases m
  refine ⟨⟨[], [], [], H⟩, [.scr ns], fun d _ => d = .bl true, rfl, ⟨rfl, fun k c e => (by simp at e), fun _ _ _ _ _ e => (by simp at e), fun _ _ m => (nomatch m), fun _ _ m => (nomatch m), List.nodup_nil, fun p hp => LamX.TabS.nil (hT p hp)⟩, .cons (.scr ?_) .nil, ⟨rfl, ns, rfl, hn, rfl⟩, fun d w' v e t r => ?_⟩
  · rcases hS with (h | h) | h
    · exact .inr ⟨h, nl⟩
    · exact .inl (.inl h)
    · exact .inl (.inr h)
  · subst e
    cases r
    exact hQ _
def spScr (K : Frag) (T : List (Addr × Str)) : Sp := fun vs H Q _ => ∃ (a : Addr) (ns : List Int), vs = [.ref a] ∧ (∀ p ∈ T, H p.1 = some (.tbl #[])) ∧ SqL K H a (ns.map V.int) ∧ ns.length ≤ 63 ∧ ∀ H', Q (.bl true) H'
def c_lawT : Con := c_script fun ns => ns.length ≤ 63
theorem scr_of {K : Frag} {mg : MG} (vs : List V) (H : Hp) (Q : VK) (E : XK) (h : spScr K mg.tb vs H Q E) : spOf K mg c_lawT vs H Q E := by
  obtain ⟨a, ns, rfl, hT, hS, hn, q⟩ := h
  exact law_start hT hS hn q

/-! ### cells of one's own, behind the caller's -/
theorem get_loc (κ l : Cs) (j : Nat) : (κ ++ l)[κ.length + j]? = l[j]? := by
  rw [List.getElem?_append_right (Nat.le_add_right _ _), Nat.add_sub_cancel_left]
theorem get_loc0 (κ l : Cs) : (κ ++ l)[κ.length]? = l[0]? := get_loc κ l 0
theorem set_loc (κ l : Cs) (j : Nat) (x : Option Ce) : (κ ++ l).set (κ.length + j) x = κ ++ l.set j x := by
  rw [List.set_append_right _ _ (Nat.le_add_right _ _), Nat.add_sub_cancel_left]
theorem set_loc0 (κ l : Cs) (x : Option Ce) : (κ ++ l).set κ.length x = κ ++ l.set 0 x := set_loc κ l 0 x
theorem len_loc (κ l : Cs) : (κ ++ l).length = κ.length + l.length := List.length_append
theorem fin_same {κ : Cs} {R : D → Cs → Prop} {d : D} (h : R d κ) : Fin κ R d κ := .inl h
/-- nothing of the caller's changed; own cells forgotten -/
theorem fin_app {κ l : Cs} {R : D → Cs → Prop} {d : D} {ds : List D} (ok : CsOk κ ds) (b : blw κ.length d = true) (h : R d κ) : Fin κ R d (κ ++ l) := by
  have e : (κ ++ l).take κ.length = κ := by rw [List.take_left']; rfl
  exact .inr ⟨κ.length, Nat.le_refl _, b, by rw [e]; exact ok.1, by rw [e]; exact h⟩
/-- one cell of the caller's changed -/
theorem fin_set {κ l : Cs} {R : D → Cs → Prop} {d : D} {ds : List D} {k : Nat} {c : Ce} (ok : CsOk κ ds) (b : blw κ.length d = true) (bc : c.blw κ.length = true) (h : R d (κ.set k (some c))) : Fin κ R d (κ.set k (some c) ++ l) := by
  have e : (κ.set k (some c) ++ l).take κ.length = κ.set k (some c) := by rw [List.take_left']; rw [List.length_set]
  refine .inr ⟨κ.length, Nat.le_refl _, b, ?_, by rw [e]; exact h⟩
  rw [e]
  intro j c' hj
  by_cases hk : k = j
  · subst hk
    by_cases hl : k < κ.length
    · rw [List.getElem?_set_self hl] at hj
      cases hj
      exact bc
    · rw [List.getElem?_eq_none (by rw [List.length_set]; omega)] at hj
      cases hj
  · rw [List.getElem?_set_ne hk] at hj
    exact ok.1 j c' hj
/-! ### loops by an invariant over what is still to come -/
theorem loop_inv {g : AG} {tb : AS} {ds : List D} {A : AEnds} {ρ : Rho} {κ : Cs} (I : List D → Rho → Cs → Prop) (h0 : I ds ρ κ)
    (hs : ∀ d ds ρ κ, I (d :: ds) ρ κ → ∀ Z : Rho → Cs → Prop, (∀ ρ' κ', I ds ρ' κ' → Z ρ' κ') → g d ρ κ fun ρ' κ' => tb { nx := Z, rt := A.rt, bk := A.nx, ct := Z } ρ' κ')
    (he : ∀ ρ κ, I [] ρ κ → A.nx ρ κ) : aLoop g tb ds A ρ κ := by
  induction ds generalizing ρ κ with
  | nil => exact he ρ κ h0
  | cons d ds ih => exact hs d ds ρ κ h0 _ fun ρ' κ' h => ih h
/-- a loop over a list that is the picture of another -/
theorem loop_map {α : Type} {g : AG} {tb : AS} {xs : List α} {f : α → D} {A : AEnds} {ρ : Rho} {κ : Cs} (I : List α → Rho → Cs → Prop) (h0 : I xs ρ κ)
    (hs : ∀ x xs ρ κ, I (x :: xs) ρ κ → ∀ Z : Rho → Cs → Prop, (∀ ρ' κ', I xs ρ' κ' → Z ρ' κ') → g (f x) ρ κ fun ρ' κ' => tb { nx := Z, rt := A.rt, bk := A.nx, ct := Z } ρ' κ')
    (he : ∀ ρ κ, I [] ρ κ → A.nx ρ κ) : aLoop g tb (xs.map f) A ρ κ := by
  induction xs generalizing ρ κ with
  | nil => exact he ρ κ h0
  | cons d ds ih => exact hs d ds ρ κ h0 _ fun ρ' κ' h => ih h
/-- a loop over the numbers of a range -/
theorem loop_rng {g : AG} {tb : AS} {lo : Int} {n : Nat} {A : AEnds} {ρ : Rho} {κ : Cs} (I : Nat → Rho → Cs → Prop) (h0 : I 0 ρ κ)
    (hs : ∀ i ρ κ, i < n → I i ρ κ → ∀ Z : Rho → Cs → Prop, (∀ ρ' κ', I (i + 1) ρ' κ' → Z ρ' κ') → g (.int (lo + (i : Nat))) ρ κ fun ρ' κ' => tb { nx := Z, rt := A.rt, bk := A.nx, ct := Z } ρ' κ')
    (he : ∀ ρ κ, I n ρ κ → A.nx ρ κ) : aLoop g tb (rangeD lo n) A ρ κ := by
  have key : ∀ (m i : Nat) ρ κ, i + m = n → I i ρ κ → aLoop g tb ((List.range' i m).map fun j => D.int (lo + (j : Nat))) A ρ κ := by
    intro m
    induction m with
    | zero =>
      intro i ρ κ e h
      have : i = n := by omega
      subst this
      exact he ρ κ h
    | succ m ih =>
      intro i ρ κ e h
      rw [List.range'_succ]
      exact hs i ρ κ (by omega) h _ fun ρ' κ' h' => ih (i + 1) ρ' κ' (by omega) h'
  have := key n 0 ρ κ (by omega) h0
  rw [← List.range_eq_range'] at this
  exact this
theorem comp_inv {g : AG} {tt : AT} {te : AE} {ρ : Rho} {ds : List D} {κ : Cs} {R : List D → Cs → Prop} (I : List D → List D → Cs → Prop) (h0 : I ds [] κ)
    (hs : ∀ d ds acc κ, I (d :: ds) acc κ → ∀ Z : List D → Cs → Prop, (∀ acc' κ', I ds acc' κ' → Z acc' κ') → g d ρ κ fun ρ2 κ2 => tt ρ2 κ2 fun b κ3 => if b = true then te ρ2 κ3 fun y κ4 => acc.length < 16777216 ∧ Z (acc ++ [y]) κ4 else Z acc κ3)
    (he : ∀ acc κ, I [] acc κ → R acc κ) : compL g tt te ρ ds [] κ R := by
  have key : ∀ ds acc κ, I ds acc κ → compL g tt te ρ ds acc κ R := by
    intro ds
    induction ds with
    | nil => intro acc κ h; exact he acc κ h
    | cons d ds ih => intro acc κ h; exact hs d ds acc κ h _ fun acc' κ' h' => ih acc' κ' h'
  exact key ds [] κ h0
/-- a comprehension without a test whose turns may change the cells -/
theorem comp_st {α β : Type} {g : AG} {te : AE} {ρ : Rho} {xs : List α} {a : α → D} {b : β → D} {κ : Cs} {R : List D → Cs → Prop} (P : α → β → Prop) (J : Cs → Prop) (h0 : J κ) (hn : xs.length ≤ 16777216)
    (hs : ∀ x κ, x ∈ xs → J κ → ∀ Z : D → Cs → Prop, (∀ z κ', P x z → J κ' → Z (b z) κ') → g (a x) ρ κ fun ρ2 κ2 => te ρ2 κ2 Z)
    (he : ∀ (zs : List β) κ, zs.length = xs.length → (∀ (i : Nat) x z, xs[i]? = some x → zs[i]? = some z → P x z) → J κ → R (zs.map b) κ) : compL g aYes te ρ (xs.map a) [] κ R := by
  have key : ∀ (todo : List α) (zs : List β) κ, J κ → zs.length + todo.length = xs.length → (∀ (i : Nat), xs[zs.length + i]? = todo[i]?) → (∀ (i : Nat) x z, xs[i]? = some x → zs[i]? = some z → P x z) → compL g aYes te ρ (todo.map a) (zs.map b) κ R := by
    intro todo
    induction todo with
    | nil => intro zs κ j l _ p; exact he zs κ (by simpa using l) p j
    | cons x todo ih =>
      intro zs κ j l q p
      have hx : xs[zs.length]? = some x := by simpa using q 0
      refine hs x κ (List.mem_of_getElem? hx) j _ fun z κ' pz j' => ?_
      rw [List.length_map]
      refine ⟨by rw [List.length_cons] at l; omega, ?_⟩
      have := ih (zs ++ [z]) κ' j' (by rw [List.length_append]; simp at l ⊢; omega) (fun i => by
        have := q (i + 1)
        rw [List.length_append]
        simpa [Nat.add_assoc, Nat.add_comm 1 i] using this) (fun i x' z' h1 h2 => by
        by_cases hi : i < zs.length
        · rw [List.getElem?_append_left hi] at h2
          exact p i x' z' h1 h2
        · have hi' : i = zs.length := by
            have := (List.getElem?_eq_some_iff.mp h2).1
            rw [List.length_append] at this
            simp at this
            omega
          subst hi'
          rw [hx] at h1
          cases h1
          simp at h2
          subst h2
          exact pz)
      rw [List.map_append] at this
      exact this
  exact key xs [] κ h0 (by simp) (fun i => by simp) (fun i x z _ h => by simp at h)
/-- a comprehension whose turns change nothing -/
theorem comp_pure {α : Type} {g : AG} {te : AE} {ρ : Rho} {xs : List α} {a b : α → D} {κ : Cs} {R : List D → Cs → Prop} (hn : xs.length ≤ 16777216)
    (hs : ∀ x, x ∈ xs → ∀ Z : D → Cs → Prop, Z (b x) κ → g (a x) ρ κ fun ρ2 κ2 => te ρ2 κ2 Z) (he : R (xs.map b) κ) : compL g aYes te ρ (xs.map a) [] κ R := by
  refine comp_st (b := b) (fun x z => x = z) (fun κ' => κ' = κ) rfl hn (fun x κ' hx e Z hz => by subst e; exact hs x hx Z (hz x _ rfl rfl)) fun zs κ' l p e => ?_
  subst e
  have : zs = xs := by
    apply List.ext_getElem?
    intro i
    by_cases hi : i < xs.length
    · have h1 := List.getElem?_eq_getElem hi
      have h2 := List.getElem?_eq_getElem (l ▸ hi : i < zs.length)
      rw [h1, h2, p i _ _ h1 h2]
    · rw [List.getElem?_eq_none (by omega), List.getElem?_eq_none (by omega)]
  subst this
  exact he
end PD
set_option Elab.async false
set_option linter.all false
set_option maxRecDepth 100000
set_option maxHeartbeats 4000000
/-! PD, part 10: readings unfolded by simp. -/
namespace PD
open PySem PySem.Spec PyProof.Rows L2
section
variable {ρ : Rho} {κ : Cs} {R : D → Cs → Prop} {RA : List D → Cs → Prop} {RT : Bool → Cs → Prop} {RG : Rho → Cs → Prop} {A : AEnds} {t u s : AE} {ta tb : AA} {tt tu : AT} {g : AG} {gs : AGs} {ts us : AS} {f : A2} {i j : Nat} {x y d : D} {G : Con}
@[simp] theorem e_var : aVar i ρ κ R ↔ ∃ d, ρ[i]? = some (some d) ∧ R d κ := .rfl
@[simp] theorem e_c : aC d ρ κ R ↔ R d κ := .rfl
@[simp] theorem e_op : aOp f t u ρ κ R ↔ t ρ κ fun d κ1 => u ρ κ1 fun e κ2 => f d e κ2 R := .rfl
@[simp] theorem e_un {f : A1} : aUn f t ρ κ R ↔ t ρ κ fun d κ1 => f d κ1 R := .rfl
@[simp] theorem e_data : aData ta ρ κ R ↔ ta ρ κ fun ds κ' => R (.lst ds) κ' := .rfl
@[simp] theorem e_cell : aCell ta ρ κ R ↔ ta ρ κ fun ds κ' => R (.cell κ'.length) (κ' ++ [some (.lst ds)]) := .rfl
@[simp] theorem e_test : aTest t ρ κ RT ↔ t ρ κ fun d κ' => ∃ b, d = .bl b ∧ RT b κ' := .rfl
@[simp] theorem e_chain {f g : A2} : aChain f g t u s ρ κ R ↔ t ρ κ fun d κ1 => u ρ κ1 fun e κ2 => f d e κ2 fun z κ3 => ∃ b, z = .bl b ∧ if b = true then s ρ κ3 fun x κ4 => g e x κ4 R else R (.bl false) κ3 := .rfl
@[simp] theorem e_andT : aAndT tt tu ρ κ RT ↔ tt ρ κ fun b κ1 => if b = true then tu ρ κ1 RT else RT false κ1 := .rfl
@[simp] theorem e_orT : aOrT tt tu ρ κ RT ↔ tt ρ κ fun b κ1 => if b = true then RT true κ1 else tu ρ κ1 RT := .rfl
@[simp] theorem e_notT : aNotT tt ρ κ RT ↔ tt ρ κ fun b κ1 => RT (!b) κ1 := .rfl
@[simp] theorem e_andV : aAndV t u ρ κ R ↔ t ρ κ fun d κ1 => ∃ b, d = .bl b ∧ if b = true then u ρ κ1 R else R (.bl false) κ1 := .rfl
@[simp] theorem e_orV : aOrV t u ρ κ R ↔ t ρ κ fun d κ1 => ∃ b, d = .bl b ∧ if b = true then R (.bl true) κ1 else u ρ κ1 R := .rfl
@[simp] theorem e_notV : aNotV t ρ κ R ↔ t ρ κ fun d κ1 => ∃ b, d = .bl b ∧ R (.bl (!b)) κ1 := .rfl
@[simp] theorem e_if : aIf tt t u ρ κ R ↔ tt ρ κ fun b κ1 => if b = true then t ρ κ1 R else u ρ κ1 R := .rfl
@[simp] theorem e_nil : aNil ρ κ RA ↔ RA [] κ := .rfl
@[simp] theorem e_cons : aCons t ta ρ κ RA ↔ t ρ κ fun d κ1 => ta ρ κ1 fun ds κ2 => RA (d :: ds) κ2 := .rfl
@[simp] theorem e_tup : aTup ta ρ κ R ↔ ta ρ κ fun ds κ' => ds.length ≤ 16777216 ∧ R (.tup ds) κ' := .rfl
@[simp] theorem e_lst : aLst ta ρ κ RA ↔ ta ρ κ fun ds κ' => ds.length ≤ 16777216 ∧ RA ds κ' := .rfl
@[simp] theorem e_addI {i j : Int} : dAdd (.int i) (.int j) κ R ↔ R (.int (i + j)) κ := .rfl
@[simp] theorem e_addT {i j : List D} : dAdd (.tup i) (.tup j) κ R ↔ i.length + j.length ≤ 16777216 ∧ R (.tup (i ++ j)) κ := .rfl
@[simp] theorem e_addL {i j : List D} : dAdd (.lst i) (.lst j) κ R ↔ i.length + j.length ≤ 16777216 ∧ R (.lst (i ++ j)) κ := by
  constructor
  · rintro ⟨_, _, e1, e2, h⟩
    cases e1
    cases e2
    exact h
  · intro h
    exact ⟨_, _, rfl, rfl, h⟩
@[simp] theorem e_ii {C : Int → Int → Prop} {g : Int → Int → D} {i j : Int} : dII C g (.int i) (.int j) κ R ↔ C i j ∧ R (g i j) κ := .rfl
@[simp] theorem e_mulI {i j : Int} : dMul (.int i) (.int j) κ R ↔ (CMul i j ∨ CMulW i j) ∧ R (.int (i * j)) κ := .rfl
@[simp] theorem e_mulL {xs : List D} {k : Int} : dMul (.lst xs) (.int k) κ R ↔ -1000000 ≤ k ∧ k ≤ 1000000 ∧ xs.length * k.toNat ≤ 16777216 ∧ R (.lst (List.replicate k.toNat xs).flatten) κ := by
  constructor
  · rintro ⟨_, e1, h⟩
    cases e1
    exact h
  · intro h
    exact ⟨_, rfl, h⟩
@[simp] theorem e_neg {i : Int} : dNeg (.int i) κ R ↔ R (.int (-i)) κ := .rfl
@[simp] theorem e_isN : dIsN x y κ R ↔ isNon y = true ∧ R (.bl (isNon x)) κ := .rfl
@[simp] theorem e_notN : dNotN x y κ R ↔ isNon y = true ∧ R (.bl (!isNon x)) κ := .rfl
@[simp] theorem isNon_non : isNon .non = true := rfl
@[simp] theorem isNon_int {i : Int} : isNon (.int i) = false := rfl
@[simp] theorem isNon_lst {i : List D} : isNon (.lst i) = false := rfl
@[simp] theorem isNon_tup {i : List D} : isNon (.tup i) = false := rfl
@[simp] theorem e_ix {i : Int} : dIx x (.int i) κ R ↔ ∃ y, itAt κ x i = some y ∧ R y κ := .rfl
@[simp] theorem itAt_tup {ds : List D} {i : Int} : itAt κ (.tup ds) i = atI ds i := rfl
@[simp] theorem itAt_lst {ds : List D} {i : Int} : itAt κ (.lst ds) i = atI ds i := rfl
@[simp] theorem itAt_scr {ns : List Int} {i : Int} : itAt κ (.scr ns) i = atI (ns.map D.int) i := rfl
theorem itAt_cell {ds : List D} {k : Nat} {i : Int} (h : κ[k]? = some (some (.lst ds))) : itAt κ (.cell k) i = atI ds i := by
  have q : lstOf κ (.cell k) = some ds := by simp only [lstOf, h]
  show (lstOf κ (.cell k)).bind _ = _
  rw [q]
  rfl
theorem atI_nat {ds : List D} {n : Nat} (h : n < ds.length) : atI ds (n : Int) = some ds[n] := by
  have e : ixN ds.length (n : Int) = some n := by
    unfold ixN
    rw [if_pos (by omega), if_pos (by omega), Int.toNat_natCast]
  show (ixN ds.length (n : Int)).bind (fun j => ds[j]?) = _
  rw [e]
  exact List.getElem?_eq_getElem h
theorem atI_map {α : Type} {f : α → D} {xs : List α} {n : Nat} (h : n < xs.length) : atI (xs.map f) (n : Int) = some (f xs[n]) := by
  rw [atI_nat (by simpa using h)]
  simp
theorem atI_int {α : Type} {f : α → D} {xs : List α} {i : Int} (h0 : 0 ≤ i) (h : i < xs.length) : ∃ hh : i.toNat < xs.length, atI (xs.map f) i = some (f xs[i.toNat]) := by
  have hh : i.toNat < xs.length := by omega
  refine ⟨hh, ?_⟩
  have := atI_map (f := f) hh
  rwa [Int.toNat_of_nonneg h0] at this
@[simp] theorem e_noPart {P : Option Int → Cs → Prop} : aNoPart ρ κ P ↔ P none κ := .rfl
def partK (d : D) (κ' : Cs) (P : Option Int → Cs → Prop) : Prop := match d with
  | .int i => P (some i) κ'
  | _ => False
@[simp] theorem e_part {P : Option Int → Cs → Prop} : aPart t ρ κ P ↔ t ρ κ fun d κ' => partK d κ' P := .rfl
@[simp] theorem partK_int {P : Option Int → Cs → Prop} {i : Int} : partK (.int i) κ P ↔ P (some i) κ := .rfl
@[simp] theorem e_sl {tl th : AO} : aSl t tl th ρ κ R ↔ t ρ κ fun d κ1 => tl ρ κ1 fun l κ2 => th ρ κ2 fun h κ3 => dSl d l h κ3 R := .rfl
@[simp] theorem e_slT {ds : List D} {l h : Option Int} : dSl (.tup ds) l h κ R ↔ R (.tup (cutD ds l h)) κ := .rfl
@[simp] theorem e_slL {ds : List D} {l h : Option Int} : dSl (.lst ds) l h κ R ↔ R (.lst (cutD ds l h)) κ := by
  constructor
  · rintro ⟨_, e1, h⟩
    cases e1
    exact h
  · intro h
    exact ⟨_, rfl, h⟩
@[simp] theorem e_slS {ns : List Int} {l h : Option Int} : dSl (.scr ns) l h κ R ↔ R (.lst (cutD (ns.map .int) l h)) κ := by
  constructor
  · rintro ⟨_, e1, h⟩
    cases e1
    exact h
  · intro h
    exact ⟨_, rfl, h⟩
theorem cut_hi {ds : List D} {n : Nat} : cutD ds none (some (n : Int)) = ds.take n := by
  have h0 : HT.sIx ds.length 0 none = 0 := rfl
  have h1 : HT.sIx ds.length ds.length (some (n : Int)) = min n ds.length := by
    exact HT.sIx_nat _ _ _
  unfold cutD
  rw [h0, h1, List.drop_zero, Nat.sub_zero]
  by_cases h : n ≤ ds.length
  · rw [Nat.min_eq_left h]
  · rw [Nat.min_eq_right (by omega), List.take_length, List.take_of_length_le (by omega)]
theorem cut_lo {ds : List D} {n : Nat} : cutD ds (some (n : Int)) none = ds.drop n := by
  have h0 : HT.sIx ds.length ds.length none = ds.length := rfl
  have h1 : HT.sIx ds.length 0 (some (n : Int)) = min n ds.length := by
    exact HT.sIx_nat _ _ _
  unfold cutD
  rw [h0, h1]
  by_cases h : n ≤ ds.length
  · rw [Nat.min_eq_left h, List.take_of_length_le (by simp)]
  · rw [Nat.min_eq_right (by omega), List.drop_length, List.drop_of_length_le (by omega)]
    simp
@[simp] theorem e_cb : aCB G ta ρ κ R ↔ ta ρ κ fun ds κ1 => G ds κ1 R := .rfl
@[simp] theorem e_lenT {ds : List D} : dLen [.tup ds] κ R ↔ R (.int ds.length) κ := .rfl
@[simp] theorem e_lenL {ds : List D} : dLen [.lst ds] κ R ↔ R (.int ds.length) κ := by
  constructor
  · rintro ⟨_, e1, h⟩
    cases e1
    exact h
  · intro h
    exact ⟨_, rfl, h⟩
theorem e_lenC {ds : List D} {k : Nat} (h : κ[k]? = some (some (.lst ds))) : dLen [.cell k] κ R ↔ R (.int ds.length) κ := by
  have q : seqOf κ (.cell k) = some ds := by
    have q : lstOf κ (.cell k) = some ds := by simp only [lstOf, h]
    exact q
  constructor
  · rintro ⟨_, e1, h⟩
    rw [q] at e1
    cases e1
    exact h
  · intro h
    exact ⟨_, q, h⟩
@[simp] theorem e_min2 {i j : Int} : dMin [.int i, .int j] κ R ↔ R (.int (if j < i then j else i)) κ := .rfl
@[simp] theorem e_max2 {i j : Int} : dMax [.int i, .int j] κ R ↔ R (.int (if j > i then j else i)) κ := .rfl
theorem e_sum {ns : List Int} (h : R (.int ns.sum) κ) : dSum [.lst (ns.map D.int)] κ R := ⟨ns, rfl, h⟩
theorem e_minL {ns : List Int} (hn : ns ≠ []) (h : R (.int (lstMin ns)) κ) : dMin [.lst (ns.map D.int)] κ R := ⟨ns, rfl, hn, h⟩
theorem e_maxL {ns : List Int} (hn : ns ≠ []) (h : R (.int (lstMax ns)) κ) : dMax [.lst (ns.map D.int)] κ R := ⟨ns, rfl, hn, h⟩
theorem e_all {bs : List Bool} (h : R (.bl (bs.all id)) κ) : dAll [.lst (bs.map D.bl)] κ R := ⟨bs, rfl, h⟩
theorem e_any {bs : List Bool} (h : R (.bl (bs.any id)) κ) : dAny [.lst (bs.map D.bl)] κ R := ⟨bs, rfl, h⟩
@[simp] theorem e_tupT {ds : List D} : dTuple [.tup ds] κ R ↔ R (.tup ds) κ := .rfl
@[simp] theorem e_tupL {ds : List D} : dTuple [.lst ds] κ R ↔ R (.tup ds) κ := by
  constructor
  · rintro ⟨_, e1, h⟩
    cases e1
    exact h
  · intro h
    exact ⟨_, rfl, h⟩
def listK (d : D) (κ : Cs) (RA : List D → Cs → Prop) : Prop := match d with
  | .tup xs => RA xs κ
  | d => ∃ xs, seqOf κ d = some xs ∧ RA xs κ
@[simp] theorem e_list : aList t ρ κ RA ↔ t ρ κ fun d κ1 => listK d κ1 RA := .rfl
@[simp] theorem listK_tup {ds : List D} : listK (.tup ds) κ RA ↔ RA ds κ := .rfl
@[simp] theorem listK_lst {ds : List D} : listK (.lst ds) κ RA ↔ RA ds κ := by
  constructor
  · rintro ⟨_, e1, h⟩
    cases e1
    exact h
  · intro h
    exact ⟨_, rfl, h⟩
@[simp] theorem listK_scr {ns : List Int} : listK (.scr ns) κ RA ↔ RA (ns.map D.int) κ := by
  constructor
  · rintro ⟨_, e1, h⟩
    cases e1
    exact h
  · intro h
    exact ⟨_, rfl, h⟩
theorem listK_cell {k : Nat} {ds : List D} (h : κ[k]? = some (some (.lst ds))) : listK (.cell k) κ RA ↔ RA ds κ := by
  have q : seqOf κ (.cell k) = some ds := by
    have q : lstOf κ (.cell k) = some ds := by simp only [lstOf, h]
    exact q
  constructor
  · rintro ⟨_, e1, h⟩
    rw [q] at e1
    cases e1
    exact h
  · intro h
    exact ⟨_, q, h⟩
@[simp] theorem seqOf_lst {ds : List D} : seqOf κ (.lst ds) = some ds := rfl
@[simp] theorem seqOf_scr {ds : List Int} : seqOf κ (.scr ds) = some (ds.map D.int) := rfl
@[simp] theorem lstOf_lst {ds : List D} : lstOf κ (.lst ds) = some ds := rfl
@[simp] theorem e_fld {c f : Str} : aFld c f t ρ κ R ↔ t ρ κ fun d κ1 => ∃ fs x, objOf κ1 d = some (c, fs) ∧ fs.lookup f = some x ∧ R x κ1 := .rfl
@[simp] theorem objOf_obj {c : Str} {fs : List (Str × D)} : objOf κ (.obj c fs) = some (c, fs) := rfl
@[simp] theorem e_meth {c m : Str} : aMeth c m G t ta ρ κ R ↔ t ρ κ fun d κ1 => ∃ fs, objOf κ1 d = some (c, fs) ∧ fs.lookup m = none ∧ ta ρ κ1 fun ds κ2 => G (d :: ds) κ2 R := .rfl
@[simp] theorem e_make {c : Str} : aMake c G ta ρ κ R ↔ ta ρ κ fun ds κ1 => G (.cell κ1.length :: ds) (κ1 ++ [some (.obj c [])]) fun d κ2 => d = .non ∧ R (.cell κ1.length) κ2 := .rfl
def frzK (d : D) (κ1 : Cs) (R : D → Cs → Prop) : Prop := match d with
  | .cell k => ∃ c, κ1[k]? = some (some c) ∧ R c.data (κ1.set k none)
  | _ => False
@[simp] theorem e_frz : aFrz t ρ κ R ↔ t ρ κ fun d κ1 => frzK d κ1 R := .rfl
@[simp] theorem frzK_cell {k : Nat} : frzK (.cell k) κ R ↔ ∃ c, κ[k]? = some (some c) ∧ R c.data (κ.set k none) := .rfl
@[simp] theorem data_lst {ds : List D} : (Ce.lst ds).data = .lst ds := rfl
@[simp] theorem data_obj {c : Str} {fs : List (Str × D)} : (Ce.obj c fs).data = .obj c fs := rfl
@[simp] theorem e_next : aNext A ρ κ ↔ A.nx ρ κ := .rfl
@[simp] theorem e_seq : aSeq ts us A ρ κ ↔ ts { A with nx := us A } ρ κ := .rfl
@[simp] theorem e_break : aBreak A ρ κ ↔ A.bk ρ κ := .rfl
@[simp] theorem e_cont : aCont A ρ κ ↔ A.ct ρ κ := .rfl
@[simp] theorem e_ret : aRet t A ρ κ ↔ t ρ κ A.rt := .rfl
@[simp] theorem e_retN : aRetN A ρ κ ↔ A.rt .non κ := .rfl
@[simp] theorem e_drop : aDrop t A ρ κ ↔ t ρ κ fun _ κ' => A.nx ρ κ' := .rfl
@[simp] theorem e_ifS : aIfS tt ts us A ρ κ ↔ tt ρ κ fun b κ' => if b = true then ts A ρ κ' else us A ρ κ' := .rfl
@[simp] theorem e_name : aName i d ρ κ RG ↔ RG (ρ.set i (some d)) κ := .rfl
@[simp] theorem e_gtup {n : Nat} {ds : List D} : aGTup n gs (.tup ds) ρ κ RG ↔ ds.length = n ∧ gs ds ρ κ RG := .rfl
@[simp] theorem e_gcons {ds : List D} : aGCons g gs (d :: ds) ρ κ RG ↔ g d ρ κ fun ρ' κ' => gs ds ρ' κ' RG := by
  show (g d ρ κ fun ρ' κ' => ds.length = ds.length ∧ gs ds ρ' κ' RG) ↔ _
  simp only [true_and]
@[simp] theorem e_gnil : aGNil [] ρ κ RG ↔ RG ρ κ := .rfl
@[simp] theorem e_asg : aAsg t g A ρ κ ↔ t ρ κ fun d κ' => g d ρ κ' A.nx := .rfl
@[simp] theorem e_par : aPar i j ta A ρ κ ↔ ta ρ κ fun ds κ' => match ds with
  | [d, e] => A.nx ((ρ.set i (some d)).set j (some e)) κ'
  | _ => False := .rfl
@[simp] theorem e_aug : aAug i f t A ρ κ ↔ ∃ x, ρ[i]? = some (some x) ∧ t ρ κ fun d κ' => f x d κ' fun y κ2 => A.nx (ρ.set i (some y)) κ2 := .rfl
@[simp] theorem e_app : aApp t u ρ κ R ↔ t ρ κ fun d κ1 => match d with
  | .cell k => (∃ ds, κ1[k]? = some (some (.lst ds))) ∧ u ρ κ1 fun e κ2 => ∃ ds, κ2[k]? = some (some (.lst ds)) ∧ ds.length < 16777216 ∧ R .non (κ2.set k (some (.lst (ds ++ [e]))))
  | _ => False := .rfl
@[simp] theorem e_sub : aSub t u d ρ κ RG ↔ t ρ κ fun o κ1 => u ρ κ1 fun i κ2 => match o, i with
  | .cell k, .int i => ∃ ds j, κ2[k]? = some (some (.lst ds)) ∧ ixN ds.length i = some j ∧ RG ρ (κ2.set k (some (.lst (ds.set j d))))
  | _, _ => False := .rfl
@[simp] theorem e_augS : aAugS f t u s A ρ κ ↔ t ρ κ fun o κ1 => u ρ κ1 fun i κ2 => match o, i with
  | .cell k, .int i => ∃ ds j x, κ2[k]? = some (some (.lst ds)) ∧ ixN ds.length i = some j ∧ ds[j]? = some x ∧ s ρ κ2 fun d κ3 => f x d κ3 fun y κ4 =>
      ∃ es, κ4[k]? = some (some (.lst es)) ∧ ixN es.length i = some j ∧ A.nx ρ (κ4.set k (some (.lst (es.set j y))))
  | _, _ => False := .rfl
@[simp] theorem e_setF {c f : Str} : aSetF c f t u A ρ κ ↔ u ρ κ fun d κ1 => t ρ κ1 fun o κ2 => match o with
  | .cell k => ∃ fs, κ2[k]? = some (some (.obj c fs)) ∧ fs.length < 1000 ∧ A.nx ρ (κ2.set k (some (.obj c (putD f d fs))))
  | _ => False := .rfl
@[simp] theorem e_frzV : aFrzV i ts A ρ κ ↔ ∃ k c, ρ[i]? = some (some (.cell k)) ∧ κ[k]? = some (some c) ∧ ts A (ρ.set i (some c.data)) (κ.set k none) := .rfl
def itK (d : D) (κ' : Cs) (RA : List D → Cs → Prop) : Prop := match d with
  | .lst ds => RA ds κ'
  | .scr ns => RA (ns.map D.int) κ'
  | .tup ds => RA ds κ'
  | _ => False
@[simp] theorem e_it : aIt t ρ κ RA ↔ t ρ κ fun d κ' => itK d κ' RA := .rfl
@[simp] theorem itK_lst {ds : List D} : itK (.lst ds) κ RA ↔ RA ds κ := .rfl
@[simp] theorem itK_tup {ds : List D} : itK (.tup ds) κ RA ↔ RA ds κ := .rfl
@[simp] theorem itK_scr {ns : List Int} : itK (.scr ns) κ RA ↔ RA (ns.map D.int) κ := .rfl
@[simp] theorem e_for {src : AA} : aFor src g ts A ρ κ ↔ src ρ κ fun ds κ' => aLoop g ts ds A ρ κ' := .rfl
@[simp] theorem e_comp {src : AA} {vs : List Nat} : aComp src g tt t vs ρ κ RA ↔ src ρ κ fun ds κ' => compL g tt t (awipe ρ vs) ds [] κ' RA := .rfl
@[simp] theorem e_enum : aEnum ta ρ κ RA ↔ ta ρ κ fun ds κ' => match ds with
  | [.lst ds] => RA (enumD 0 ds) κ'
  | _ => False := .rfl
@[simp] theorem e_rng1 : aRng1 ta ρ κ RA ↔ ta ρ κ fun ds κ' => match ds with
  | [.int j] => (-1000000000 ≤ j ∧ j ≤ 1000000000) ∧ RA (rangeD 0 j.toNat) κ'
  | _ => False := .rfl
@[simp] theorem e_rng2 : aRng2 ta ρ κ RA ↔ ta ρ κ fun ds κ' => match ds with
  | [.int i, .int j] => (-1000000000 ≤ i ∧ i ≤ 1000000000 ∧ -1000000000 ≤ j ∧ j ≤ 1000000000) ∧ RA (rangeD i (j - i).toNat) κ'
  | _ => False := .rfl
@[simp] theorem e_zip : aZip ta ρ κ RA ↔ ta ρ κ fun ds κ' => match ds with
  | [.lst ds, .lst es] => RA (zipD ds es) κ'
  | _ => False := .rfl
@[simp] theorem e_sortZ : aSortZ ta ρ κ R ↔ ta ρ κ fun ds κ' => match ds with
  | [d, e] => ∃ ns ms : List Int, seqOf κ' d = some (ns.map D.int) ∧ seqOf κ' e = some (ms.map D.int) ∧ ns.length ≤ 1000 ∧ R (.lst ((ZC.sortP (ns.zip ms)).map eP)) κ'
  | _ => False := .rfl
@[simp] theorem e_wipe0 : awipe ρ [] = ρ := rfl
@[simp] theorem e_wipe1 {v : Nat} {vs : List Nat} : awipe ρ (v :: vs) = (awipe ρ vs).set v none := rfl
end
end PD
set_option Elab.async false
set_option linter.all false
set_option maxRecDepth 100000
set_option maxHeartbeats 4000000
/-! PD, part 11: the bag that a law draws from. -/
namespace PD
open PySem PySem.Spec PyProof.Rows L2
def BagC (c : Ce) : Prop := ∃ (a b : Int) (n : Nat) (ns : List Int), c = .lst [.int a, .int b, .int (n : Nat), .lst (ns.map D.int)]
/-- κ' is κ with another bag at k -/
structure Bg (k : Nat) (κ κ' : Cs) : Prop where
  lt : k < κ.length
  ex : ∃ c, κ' = κ.set k (some c) ∧ BagC c
theorem Bg.len {k : Nat} {κ κ' : Cs} (h : Bg k κ κ') : κ'.length = κ.length := by
  obtain ⟨c, e, _⟩ := h.ex
  rw [e, List.length_set]
theorem Bg.get {k : Nat} {κ κ' : Cs} (h : Bg k κ κ') : ∃ c, κ'[k]? = some (some c) ∧ BagC c := by
  obtain ⟨c, e, b⟩ := h.ex
  exact ⟨c, by rw [e, List.getElem?_set_self h.lt], b⟩
theorem Bg.trans {k : Nat} {κ κ1 κ2 : Cs} (h : Bg k κ κ1) (h' : Bg k κ1 κ2) : Bg k κ κ2 := by
  obtain ⟨c, e, b⟩ := h.ex
  obtain ⟨c', e', b'⟩ := h'.ex
  exact ⟨h.lt, c', by rw [e', e, List.set_set], b'⟩
theorem Bg.refl' {k : Nat} {κ κ' : Cs} (h : Bg k κ κ') : Bg k κ' κ' := by
  obtain ⟨c, e, b⟩ := h.get
  refine ⟨by rw [h.len]; exact h.lt, c, ?_, b⟩
  apply List.ext_getElem?
  intro j
  by_cases hj : k = j
  · subst hj
    rw [e, List.getElem?_set_self (by rw [h.len]; exact h.lt)]
  · rw [List.getElem?_set_ne hj]
theorem Bg.of {k : Nat} {κ : Cs} {c : Ce} (h : κ[k]? = some (some c)) (b : BagC c) : Bg k κ κ := by
  have hl := (List.getElem?_eq_some_iff.mp h).1
  refine ⟨hl, c, ?_, b⟩
  apply List.ext_getElem?
  intro j
  by_cases hj : k = j
  · subst hj
    rw [h, List.getElem?_set_self hl]
  · rw [List.getElem?_set_ne hj]
theorem Bg.set {k : Nat} {κ κ' : Cs} {c : Ce} (h : Bg k κ κ') (b : BagC c) : Bg k κ (κ'.set k (some c)) := by
  obtain ⟨c', e, _⟩ := h.ex
  exact ⟨h.lt, c, by rw [e, List.set_set], b⟩
/-- with cells of one's own behind -/
theorem Bg.app {k : Nat} {κ κ' : Cs} (l : Cs) (h : Bg k κ κ') : Bg k (κ ++ l) (κ' ++ l) := by
  obtain ⟨c, e, b⟩ := h.ex
  exact ⟨by rw [List.length_append]; have := h.lt; omega, c, by rw [List.set_append_left _ _ h.lt, e], b⟩
theorem Bg.un {k : Nat} {κ l κ2 : Cs} (h : Bg k (κ ++ l) κ2) (hk : k < κ.length) : ∃ κ', κ2 = κ' ++ l ∧ Bg k κ κ' := by
  obtain ⟨c, e, b⟩ := h.ex
  refine ⟨κ.set k (some c), by rw [e, List.set_append_left _ _ hk], hk, c, rfl, b⟩
theorem blws_ints (n : Nat) : ∀ ns : List Int, blws n (ns.map D.int) = true
  | [] => rfl
  | _ :: ns => by simp [blws, blw, blws_ints n ns]
theorem BagC.blw {c : Ce} (b : BagC c) (n : Nat) : c.blw n = true := by
  obtain ⟨_, _, _, ns, rfl⟩ := b
  simp [Ce.blw, blws, PD.blw, blws_ints]
theorem Bg.cs {k : Nat} {κ κ' : Cs} {ds : List D} (h : Bg k κ κ') (ok : CsOk κ ds) : ∀ (j : Nat) (c : Ce), κ'[j]? = some (some c) → c.blw κ.length = true := by
  obtain ⟨c, e, b⟩ := h.ex
  intro j c' hj
  rw [e] at hj
  by_cases hk : k = j
  · subst hk
    rw [List.getElem?_set_self h.lt] at hj
    cases hj
    exact b.blw _
  · rw [List.getElem?_set_ne hk] at hj
    exact ok.1 j c' hj
theorem fin_bg {k : Nat} {κ κ' l : Cs} {R : D → Cs → Prop} {d : D} {ds : List D} (h : Bg k κ κ') (ok : CsOk κ ds) (b : blw κ.length d = true) (r : R d κ') : Fin κ R d (κ' ++ l) := by
  refine .inr ⟨κ.length, Nat.le_refl _, b, ?_, ?_⟩
  · rw [← h.len, List.take_left']
    · rw [h.len]; exact h.cs ok
    · rfl
  · rw [← h.len, List.take_left']
    · exact r
    · rfl
/-- the rule of the draw -/
def c_take : Con := fun ds κ R => ∃ (k : Nat) (m : Int), ds = [.cell k, .int m] ∧ Bg k κ κ ∧ 0 < m ∧ m < 2 ^ 64 ∧ ∀ (v : Int) κ', Bg k κ κ' → 0 ≤ v → v < m → R (.int v) κ'
theorem use_take {k : Nat} {κ0 κ : Cs} {m : Int} {R : D → Cs → Prop} (b : Bg k κ0 κ) (h0 : 0 < m) (h1 : m < 2 ^ 64) (h : ∀ (v : Int) κ', Bg k κ0 κ' → 0 ≤ v → v < m → R (.int v) κ') : c_take [.cell k, .int m] κ R :=
  ⟨k, m, rfl, b.refl', h0, h1, fun v κ' b' h2 h3 => h v κ' (b.trans b') h2 h3⟩
end PD
set_option Elab.async false
set_option linter.all false
set_option maxRecDepth 100000
set_option maxHeartbeats 4000000
/-! PD, part 12: equality of data made of numbers. -/
namespace PD
open PySem PySem.Spec PyProof.Rows L2
mutual
/-- numbers, None, and lists and tuples of such -/
def nums : D → Bool
  | .non => true
  | .int _ => true
  | .lst ds => numss ds
  | .tup ds => numss ds
  | _ => false
def numss : List D → Bool
  | [] => true
  | d :: ds => nums d && numss ds
end
mutual
theorem plain_nums : ∀ d : D, nums d = true → plain d = true
  | .non, _ => rfl
  | .int _, _ => rfl
  | .lst ds, h => by rw [plain]; exact plains_nums ds (by rwa [nums] at h)
  | .tup ds, h => by rw [plain]; exact plains_nums ds (by rwa [nums] at h)
theorem plains_nums : ∀ ds : List D, numss ds = true → plains ds = true
  | [], _ => rfl
  | d :: ds, h => by
    rw [numss, Bool.and_eq_true] at h
    rw [plains, plain_nums d h.1, plains_nums ds h.2]
    rfl
end
mutual
theorem eqD_nums : ∀ d e : D, nums d = true → nums e = true → (PyData.eqv (pyOf d) (pyOf e) = true ↔ d = e)
  | .non, e, _, h => by cases e <;> simp [pyOf, PyData.eqv, nums] at h ⊢
  | .int i, e, _, h => by cases e <;> simp [pyOf, PyData.eqv, nums] at h ⊢
  | .lst ds, e, h', h => by
    cases e with
    | lst es =>
      rw [pyOf, pyOf, PyData.eqv, eqDs_nums ds es (by rwa [nums] at h') (by rwa [nums] at h)]
      simp
    | _ => simp [pyOf, PyData.eqv, nums] at h ⊢
  | .tup ds, e, h', h => by
    cases e with
    | tup es =>
      rw [pyOf, pyOf, PyData.eqv, eqDs_nums ds es (by rwa [nums] at h') (by rwa [nums] at h)]
      simp
    | _ => simp [pyOf, PyData.eqv, nums] at h ⊢
theorem eqDs_nums : ∀ ds es : List D, numss ds = true → numss es = true → (PyData.eqvAll (pysOf ds) (pysOf es) = true ↔ ds = es)
  | [], [], _, _ => by simp [pysOf, PyData.eqvAll]
  | [], _ :: _, _, _ => by simp [pysOf, PyData.eqvAll]
  | _ :: _, [], _, _ => by simp [pysOf, PyData.eqvAll]
  | d :: ds, e :: es, h', h => by
    rw [numss, Bool.and_eq_true] at h h'
    rw [pysOf, pysOf, PyData.eqvAll, Bool.and_eq_true, eqD_nums d e h'.1 h.1, eqDs_nums ds es h'.2 h.2]
    simp
end
theorem numss_map {α : Type} {f : α → D} (h : ∀ x, nums (f x) = true) : ∀ xs : List α, numss (xs.map f) = true
  | [] => rfl
  | x :: xs => by rw [List.map_cons, numss, h x, numss_map h xs]; rfl
theorem deps_map {α : Type} {f : α → D} {n : Nat} (h : ∀ x, dep (f x) ≤ n) : ∀ xs : List α, deps (xs.map f) ≤ n
  | [] => Nat.zero_le _
  | x :: xs => by rw [List.map_cons, deps]; exact Nat.max_le.mpr ⟨h x, deps_map h xs⟩
def tI (ns : List Int) : D := .tup (ns.map D.int)
def lN (ns : List Int) : D := .lst (ns.map D.int)
theorem nums_tI (ns : List Int) : nums (tI ns) = true := by rw [tI, nums]; exact numss_map (fun _ => rfl) ns
theorem dep_tI (ns : List Int) : dep (tI ns) ≤ 1 := by rw [tI, dep]; exact Nat.succ_le_succ (deps_map (n := 0) (fun _ => Nat.le_refl _) ns)
theorem nums_lN (ns : List Int) : nums (lN ns) = true := by rw [lN, nums]; exact numss_map (fun _ => rfl) ns
theorem dep_lN (ns : List Int) : dep (lN ns) ≤ 1 := by rw [lN, dep]; exact Nat.succ_le_succ (deps_map (n := 0) (fun _ => Nat.le_refl _) ns)
theorem nums_rows (rs : List (List Int)) : nums (.lst (rs.map tI)) = true := by rw [nums]; exact numss_map nums_tI rs
theorem dep_rows (rs : List (List Int)) : dep (.lst (rs.map tI)) ≤ 2 := by rw [dep]; exact Nat.succ_le_succ (deps_map dep_tI rs)
theorem map_inj {α : Type} {f : α → D} (h : ∀ x y, f x = f y → x = y) : ∀ {xs ys : List α}, xs.map f = ys.map f → xs = ys
  | [], [], _ => rfl
  | [], _ :: _, e => by simp at e
  | _ :: _, [], e => by simp at e
  | x :: xs, y :: ys, e => by
    simp only [List.map_cons, List.cons.injEq] at e
    rw [h x y e.1, map_inj h e.2]
theorem tI_inj {a b : List Int} (e : tI a = tI b) : a = b := by
  unfold tI at e
  injection e with e
  exact map_inj (fun _ _ q => by injection q) e
theorem lN_inj {a b : List Int} (e : lN a = lN b) : a = b := by
  unfold lN at e
  injection e with e
  exact map_inj (fun _ _ q => by injection q) e
section
variable {κ : Cs} {R : D → Cs → Prop} {RA : List D → Cs → Prop}
theorem ints_inj {a b : List Int} (e : a.map D.int = b.map D.int) : a = b := map_inj (fun _ _ q => by injection q) e
@[simp] theorem e_len_tI {ns : List Int} : dLen [tI ns] κ R ↔ R (.int ns.length) κ := by rw [tI, e_lenT, List.length_map]
@[simp] theorem itAt_tI {ns : List Int} {i : Int} : itAt κ (tI ns) i = atI (ns.map D.int) i := rfl
@[simp] theorem e_len_lN {ns : List Int} : dLen [lN ns] κ R ↔ R (.int ns.length) κ := by rw [lN, e_lenL, List.length_map]
@[simp] theorem itAt_lN {ns : List Int} {i : Int} : itAt κ (lN ns) i = atI (ns.map D.int) i := rfl
@[simp] theorem listK_lN {ns : List Int} : listK (lN ns) κ RA ↔ RA (ns.map D.int) κ := listK_lst
@[simp] theorem listK_tI {ns : List Int} : listK (tI ns) κ RA ↔ RA (ns.map D.int) κ := listK_tup
@[simp] theorem itK_lN {ns : List Int} : itK (lN ns) κ RA ↔ RA (ns.map D.int) κ := .rfl
@[simp] theorem itK_tI {ns : List Int} : itK (tI ns) κ RA ↔ RA (ns.map D.int) κ := .rfl
@[simp] theorem e_sl_lN {ns : List Int} {l h : Option Int} : dSl (lN ns) l h κ R ↔ R (.lst (cutD (ns.map D.int) l h)) κ := e_slL
@[simp] theorem e_sl_tI {ns : List Int} {l h : Option Int} : dSl (tI ns) l h κ R ↔ R (.tup (cutD (ns.map D.int) l h)) κ := e_slT
theorem e_sumL {ns : List Int} : dSum [.lst (ns.map D.int)] κ R ↔ R (.int ns.sum) κ := by
  constructor
  · rintro ⟨ms, e, h⟩
    rw [ints_inj (Option.some.inj e)]
    exact h
  · exact e_sum
@[simp] theorem e_sum_lN {ns : List Int} : dSum [lN ns] κ R ↔ R (.int ns.sum) κ := e_sumL
@[simp] theorem e_eqI {i j : Int} : dEq (.int i) (.int j) κ R ↔ R (.bl (decide (i = j))) κ := .rfl
@[simp] theorem e_neI {i j : Int} : dNe (.int i) (.int j) κ R ↔ R (.bl (!decide (i = j))) κ := .rfl
@[simp] theorem e_eqB {i j : Bool} : dEq (.bl i) (.bl j) κ R ↔ R (.bl (decide (i = j))) κ := .rfl
@[simp] theorem e_neB {i j : Bool} : dNe (.bl i) (.bl j) κ R ↔ R (.bl (!decide (i = j))) κ := .rfl
theorem okD_nums {d : D} (h : nums d = true) (hd : dep d ≤ 60) : okD d := ⟨plain_nums d h, hd⟩
theorem eqD_dec {d e : D} {p : Prop} [Decidable p] (h : nums d = true) (h' : nums e = true) (hp : d = e ↔ p) : eqD d e = decide p := by
  have := eqD_nums d e h h'
  by_cases q : p
  · rw [decide_eq_true q]; exact this.mpr (hp.mpr q)
  · rw [decide_eq_false q]
    cases z : eqD d e with
    | false => rfl
    | true => exact absurd (hp.mp (this.mp z)) q
theorem e_eqT {a b : List Int} : dEq (tI a) (tI b) κ R ↔ R (.bl (decide (a = b))) κ := by
  have e := eqD_dec (p := a = b) (nums_tI a) (nums_tI b) ⟨tI_inj, fun q => by rw [q]⟩
  have o := fun c => okD_nums (nums_tI c) (Nat.le_trans (dep_tI c) (by decide))
  show okD (tI a) ∧ okD (tI b) ∧ R (.bl (eqD (tI a) (tI b))) κ ↔ _
  rw [e]
  exact ⟨fun h => h.2.2, fun h => ⟨o a, o b, h⟩⟩
theorem e_neT {a b : List Int} : dNe (tI a) (tI b) κ R ↔ R (.bl (!decide (a = b))) κ := by
  have e := eqD_dec (p := a = b) (nums_tI a) (nums_tI b) ⟨tI_inj, fun q => by rw [q]⟩
  have o := fun c => okD_nums (nums_tI c) (Nat.le_trans (dep_tI c) (by decide))
  show okD (tI a) ∧ okD (tI b) ∧ R (.bl (!eqD (tI a) (tI b))) κ ↔ _
  rw [e]
  exact ⟨fun h => h.2.2, fun h => ⟨o a, o b, h⟩⟩
theorem e_eqL {a b : List Int} : dEq (lN a) (lN b) κ R ↔ R (.bl (decide (a = b))) κ := by
  have e := eqD_dec (p := a = b) (nums_lN a) (nums_lN b) ⟨lN_inj, fun q => by rw [q]⟩
  have o := fun c => okD_nums (nums_lN c) (Nat.le_trans (dep_lN c) (by decide))
  show okD (lN a) ∧ okD (lN b) ∧ R (.bl (eqD (lN a) (lN b))) κ ↔ _
  rw [e]
  exact ⟨fun h => h.2.2, fun h => ⟨o a, o b, h⟩⟩
theorem e_neL {a b : List Int} : dNe (lN a) (lN b) κ R ↔ R (.bl (!decide (a = b))) κ := by
  have e := eqD_dec (p := a = b) (nums_lN a) (nums_lN b) ⟨lN_inj, fun q => by rw [q]⟩
  have o := fun c => okD_nums (nums_lN c) (Nat.le_trans (dep_lN c) (by decide))
  show okD (lN a) ∧ okD (lN b) ∧ R (.bl (!eqD (lN a) (lN b))) κ ↔ _
  rw [e]
  exact ⟨fun h => h.2.2, fun h => ⟨o a, o b, h⟩⟩
/-- data of numbers against data of numbers, whatever it is -/
theorem e_eqN {d e : D} {p : Prop} [Decidable p] (h : nums d = true) (h' : nums e = true) (hd : dep d ≤ 60) (he : dep e ≤ 60) (hn : ∀ i, d ≠ .int i) (hp : d = e ↔ p) (hR : R (.bl (decide p)) κ) : dEq d e κ R := by
  have v : ∀ d : D, nums d = true → view κ d = d := fun d h => by cases d <;> first | rfl | (simp [nums] at h)
  have q := eqD_dec h h' hp
  unfold dEq
  split
  · exact absurd rfl (hn _)
  · simp [nums] at h
  · simp [nums] at h
  · rw [v d h, v e h', q]
    exact ⟨okD_nums h hd, okD_nums h' he, hR⟩
theorem e_neN {d e : D} {p : Prop} [Decidable p] (h : nums d = true) (h' : nums e = true) (hd : dep d ≤ 60) (he : dep e ≤ 60) (hn : ∀ i, d ≠ .int i) (hp : d = e ↔ p) (hR : R (.bl (!decide p)) κ) : dNe d e κ R := by
  have v : ∀ d : D, nums d = true → view κ d = d := fun d h => by cases d <;> first | rfl | (simp [nums] at h)
  have q := eqD_dec h h' hp
  unfold dNe
  split
  · exact absurd rfl (hn _)
  · simp [nums] at h
  · simp [nums] at h
  · rw [v d h, v e h', q]
    exact ⟨okD_nums h hd, okD_nums h' he, hR⟩
@[simp] theorem cmR {i j : Int} (h : -18446744073709551616 < j ∧ j < 18446744073709551616) : (CMul i j ∨ CMulW i j) = True := eq_true (.inl (.inr ⟨by omega, by omega⟩))
@[simp] theorem cmL {i j : Int} (h : -18446744073709551616 < i ∧ i < 18446744073709551616) : (CMul i j ∨ CMulW i j) = True := eq_true (.inl (.inl ⟨by omega, by omega⟩))
theorem cdivw {i m : Int} (h0 : 0 < m) (h1 : m < 2 ^ 64) : CDivW i m := by
  refine ⟨h0, ?_⟩
  have : m.natAbs < 2 ^ 64 := by omega
  have := Nat.log2_lt (n := m.natAbs) (k := 64) (by omega) |>.mpr this
  omega
@[simp] theorem cdivw_lit {i m : Int} (h : 0 < m ∧ m < 18446744073709551616) : CDivW i m = True := eq_true (cdivw h.1 (by omega))
theorem ixN_lt {n i : Nat} (h : i < n) : ixN n (i : Int) = some i := by
  unfold ixN
  rw [if_pos (by omega), if_pos (by omega), Int.toNat_natCast]
@[simp] theorem atI_0 {x : D} {xs : List D} : atI (x :: xs) 0 = some x := atI_nat (n := 0) (by simp)
@[simp] theorem atI_1 {x y : D} {xs : List D} : atI (x :: y :: xs) 1 = some y := atI_nat (n := 1) (by simp)
@[simp] theorem atI_2 {x y z : D} {xs : List D} : atI (x :: y :: z :: xs) 2 = some z := atI_nat (n := 2) (by simp)
@[simp] theorem atI_3 {x y z u : D} {xs : List D} : atI (x :: y :: z :: u :: xs) 3 = some u := atI_nat (n := 3) (by simp)
@[simp] theorem atI_4 {x y z u v : D} {xs : List D} : atI (x :: y :: z :: u :: v :: xs) 4 = some v := atI_nat (n := 4) (by simp)
theorem itAt_set {k : Nat} {ds : List D} {i : Int} (h : k < κ.length) : itAt (κ.set k (some (.lst ds))) (.cell k) i = atI ds i := itAt_cell (by rw [List.getElem?_set_self h])
/-- the cut rule -/
theorem seq_cut {t u : AS} {A : AEnds} {ρ : Rho} (P : Rho → Cs → Prop) (h1 : ∀ Z : Rho → Cs → Prop, (∀ ρ' κ', P ρ' κ' → Z ρ' κ') → t { A with nx := Z } ρ κ) (h2 : ∀ ρ' κ', P ρ' κ' → u A ρ' κ') : aSeq t u A ρ κ := h1 _ h2
theorem use_take_app {k : Nat} {κ0 l : Cs} {m : Int} (b : Bg k κ0 κ) (h0 : 0 < m) (h1 : m < 2 ^ 64) (h : ∀ (v : Int) κ', Bg k κ0 κ' → 0 ≤ v → v < m → R (.int v) (κ' ++ l)) : c_take [.cell k, .int m] (κ ++ l) R := by
  refine use_take (b.refl'.app l) h0 h1 fun v κ' b' g0 g1 => ?_
  obtain ⟨κ2, rfl, b2⟩ := b'.un (by rw [b.len]; exact b.lt)
  exact h v κ2 (b.trans b2) g0 g1
theorem own_get {n : Nat} {c : Option Ce} (h : κ.length = n) : (κ ++ [c])[n]? = some c := by
  subst h
  rw [get_loc0]
  rfl
theorem own_set {n : Nat} {c x : Option Ce} (h : κ.length = n) : (κ ++ [c]).set n x = κ ++ [x] := by
  subst h
  rw [set_loc0]
  rfl
theorem own_get1 {n : Nat} {a c : Option Ce} (h : κ.length = n) : (κ ++ [a, c])[n + 1]? = some c := by
  subst h
  rw [get_loc]
  rfl
theorem own_set1 {n : Nat} {a c x : Option Ce} (h : κ.length = n) : (κ ++ [a, c]).set (n + 1) x = κ ++ [a, x] := by
  subst h
  rw [set_loc]
  rfl
theorem own_get2 {n : Nat} {a b c : Option Ce} (h : κ.length = n) : (κ ++ [a, b, c])[n + 2]? = some c := by
  subst h
  rw [get_loc]
  rfl
theorem own_set2 {n : Nat} {a b c x : Option Ce} (h : κ.length = n) : (κ ++ [a, b, c]).set (n + 2) x = κ ++ [a, b, x] := by
  subst h
  rw [set_loc]
  rfl
theorem comp_rng {β : Type} {g : AG} {te : AE} {ρ : Rho} {lo : Int} {n : Nat} {b : β → D} {R : List D → Cs → Prop} (P : Nat → β → Prop) (J : Cs → Prop) (h0 : J κ) (hn : n ≤ 16777216)
    (hs : ∀ (i : Nat) κ, i < n → J κ → ∀ Z : D → Cs → Prop, (∀ z κ', P i z → J κ' → Z (b z) κ') → g (.int (lo + (i : Nat))) ρ κ fun ρ2 κ2 => te ρ2 κ2 Z)
    (he : ∀ (zs : List β) κ, zs.length = n → (∀ (i : Nat) z, zs[i]? = some z → P i z) → J κ → R (zs.map b) κ) : compL g aYes te ρ (rangeD lo n) [] κ R :=
  comp_st (a := fun i : Nat => D.int (lo + (i : Nat))) (b := b) P J h0 (by rwa [List.length_range]) (fun x κ hx j Z hz => hs x κ (List.mem_range.mp hx) j Z hz) fun zs κ l p j => he zs κ (by rw [l, List.length_range]) (fun i z hz => p i i z (by
    rw [List.getElem?_range]
    have := (List.getElem?_eq_some_iff.mp hz).1
    rw [l, List.length_range] at this
    exact this) hz) j
theorem loop_ran {g : AG} {tb : AS} {n : Nat} {h : Nat → D} {A : AEnds} {ρ : Rho} (I : Nat → Rho → Cs → Prop) (h0 : I 0 ρ κ)
    (hs : ∀ i ρ κ, i < n → I i ρ κ → ∀ Z : Rho → Cs → Prop, (∀ ρ' κ', I (i + 1) ρ' κ' → Z ρ' κ') → g (h i) ρ κ fun ρ' κ' => tb { nx := Z, rt := A.rt, bk := A.nx, ct := Z } ρ' κ')
    (he : ∀ ρ κ, I n ρ κ → A.nx ρ κ) : aLoop g tb ((List.range n).map h) A ρ κ := by
  have key : ∀ (m i : Nat) ρ κ, i + m = n → I i ρ κ → aLoop g tb ((List.range' i m).map h) A ρ κ := by
    intro m
    induction m with
    | zero =>
      intro i ρ κ e h
      have : i = n := by omega
      subst this
      exact he ρ κ h
    | succ m ih =>
      intro i ρ κ e h
      rw [List.range'_succ]
      exact hs i ρ κ (by omega) h _ fun ρ' κ' h' => ih (i + 1) ρ' κ' (by omega) h'
  have := key n 0 ρ κ (by omega) h0
  rw [← List.range_eq_range'] at this
  exact this
theorem getD_lt {α : Type} {xs : List α} {i : Nat} (h : i < xs.length) (z : α) : xs.getD i z = xs[i] := by rw [List.getD_eq_getElem?_getD, List.getElem?_eq_getElem h]; rfl
theorem enumD_map {α : Type} {f : α → D} {xs : List α} (z : α) : enumD 0 (xs.map f) = (List.range xs.length).map fun i => .tup [.int (i : Nat), f (xs.getD i z)] := by
  apply List.ext_getElem?
  intro i
  rw [enumD_get, Nat.zero_add, List.getElem?_map, List.getElem?_map]
  by_cases hi : i < xs.length
  · rw [List.getElem?_range hi, List.getElem?_eq_getElem hi]
    show some (D.tup [D.int (i : Nat), f xs[i]]) = some (D.tup [D.int (i : Nat), f (xs.getD i z)])
    rw [getD_lt hi]
  · rw [List.getElem?_eq_none (by omega), List.getElem?_eq_none (by simpa using hi)]
    rfl
/-- a cell's list against a list -/
theorem e_neC {k : Nat} {ds es : List D} {p : Prop} [Decidable p] (hk : κ[k]? = some (some (.lst ds))) (h : numss ds = true) (h' : numss es = true) (hd : dep (.lst ds) ≤ 60) (he : dep (.lst es) ≤ 60) (hp : ds = es ↔ p) (hR : R (.bl (!decide p)) κ) : dNe (.cell k) (.lst es) κ R := by
  have q := eqD_dec (d := .lst ds) (e := .lst es) (p := p) (by rwa [nums]) (by rwa [nums]) (by simpa using hp)
  have l : lstOf κ (.cell k) = some ds := by simp only [lstOf, hk]
  have v : view κ (.cell k) = .lst ds := by simp only [view, l]
  show okD (view κ (.cell k)) ∧ okD (view κ (.lst es)) ∧ R (.bl (!eqD (view κ (.cell k)) (view κ (.lst es)))) κ
  rw [v, show view κ (.lst es) = .lst es from rfl, q]
  exact ⟨okD_nums (by rwa [nums]) hd, okD_nums (by rwa [nums]) he, hR⟩
end
end PD
set_option Elab.async false
set_option linter.all false
set_option maxRecDepth 100000
set_option maxHeartbeats 4000000
/-! PD, part 13: what a small pure expression gives, told of the heap itself: the bodies of key lambdas. -/
namespace PD
open PySem PySem.Spec PyProof.Rows L2
abbrev Keep (h h' : Heap) : Prop := ∀ b o, h.get? b = some o → h'.get? b = some o
/-- v reads as d in h, its lists stand in g -/
def Rg (g h : Heap) (v : Value) (d : PyData) : Prop := ∃ as, Reads h v d as ∧ ∀ b ∈ as, ∃ o, g.get? b = some o
theorem Rg.mono {g h h' : Heap} {v : Value} {d : PyData} (k : Keep h h') (r : Rg g h v d) : Rg g h' v d := by
  obtain ⟨as, r, p⟩ := r
  exact ⟨as, PyProof.Rows.Reads.keeps k r, p⟩
abbrev PRho := List (Option PyData)
/-- the names of env stand for ρ -/
def EnvAt (env : Env) (N : List Str) (ρ : PRho) (g h : Heap) : Prop := ∀ (i : Nat) (x : Str) (d : PyData), N[i]? = some x → ρ[i]? = some (some d) →
  (env.kindOf x = some .local → ∃ u m, h.Ns env.locals m ∧ m x = some u ∧ Rg g h u d) ∧ (env.kindOf x = some .free → ∃ u c, env.cells.lookup x = some c ∧ h.IsCell c (some u) ∧ Rg g h u d)
theorem ns_keep {h h' : Heap} {L : Addr} {m : Str → Option Value} (k : Keep h h') (n : h.Ns L m) : h'.Ns L m := by
  obtain ⟨o, es, ep, e, r⟩ := n
  exact ⟨o, es, ep, k _ _ e, r⟩
theorem EnvAt.mono {env : Env} {N : List Str} {ρ : PRho} {g h h' : Heap} (k : Keep h h') (e : EnvAt env N ρ g h) : EnvAt env N ρ g h' := fun i x d e1 e2 => by
  obtain ⟨a, b⟩ := e i x d e1 e2
  refine ⟨fun q => ?_, fun q => ?_⟩
  · obtain ⟨u, m, n, hm, r⟩ := a q
    exact ⟨u, m, ns_keep k n, hm, r.mono k⟩
  · obtain ⟨u, c, hc, ⟨o, ho, hd⟩, r⟩ := b q
    exact ⟨u, c, hc, ⟨o, k _ _ ho, hd⟩, r.mono k⟩
/-- e gives f of the names, and changes nothing -/
def EvK (N : List Str) (env : Env) (e : Expr) (f : PRho → Option PyData) : Prop :=
  ∀ (prog : Program) (w : World) (A : Around) (E : Value → Shared → Prop) (s : Shared) (g : Heap) (ρ : PRho) (d : PyData) (Q : Value → Shared → Prop), EnvAt env N ρ g s.heap → f ρ = some d →
    (∀ u h' tk, Keep s.heap h' → Rg g h' u d → Q u { s with heap := h', toks := tk }) → wpAny (model prog w) A (eval e env) Q E s
section
variable {N : List Str} {env : Env} {e a b : Expr} {f f' : PRho → Option PyData} {pos : Pos}
theorem ek_var {x : Str} (i : Nat) (hk : env.scope.kind = .function) (hN : N[i]? = some x) (hv : env.kindOf x = some .local ∨ env.kindOf x = some .free) (hd : (x == ("__debug__" : Str)) = false := by decide) (hc : (x == ("__classdict__" : Str)) = false := by decide) :
    EvK N env (.Name x pos) fun ρ => (ρ[i]?).join := by
  intro prog w A E s g ρ d Q he hf h
  have hf : (ρ[i]?).join = some d := hf
  have e2 : ρ[i]? = some (some d) := by
    cases q : ρ[i]? with
    | none =>
      rw [q] at hf
      cases hf
    | some o =>
      rw [q] at hf
      have hf' : o = some d := hf
      rw [← hf', ← q]
  obtain ⟨l, r⟩ := he i x d hN e2
  rcases hv with hv | hv
  · obtain ⟨u, m, n, hm, r⟩ := l hv
    exact wpAny_Name (wpAny_loadName_local hk hv n hm (h u s.heap s.toks (fun _ _ e => e) r)) hd
  · obtain ⟨u, c, hl, ic, r⟩ := r hv
    exact wpAny_Name (wpAny_loadName_free hk hv hl ic (h u s.heap s.toks (fun _ _ e => e) r) hc) hd
theorem ek_int {i : Int} {k : Nat} : EvK N env (.Constant (.int i) k pos) fun _ => some (.int i) := by
  intro prog w A E s g ρ d Q he hf h
  cases hf
  exact wpAny_Constant_int (h _ s.heap _ (fun _ _ e => e) ⟨[], .int _ _, by simp⟩)
theorem ek_neg (ha : EvK N env a f) : EvK N env (.UnaryOp .USub a pos) fun ρ => (f ρ).bind fun d => match d with
    | .int i => some (.int (-i))
    | _ => none := by
  intro prog w A E s g ρ d Q he hf h
  obtain ⟨d1, e1, e2⟩ := Option.bind_eq_some_iff.mp hf
  split at e2
  · cases e2
    refine wpAny_UnaryOp (ha prog w A E s g ρ _ _ he e1 fun u h' tk k r => ?_)
    obtain ⟨as, r, p⟩ := r
    cases r
    exact PyProof.Rows.neg_int (h _ h' _ k ⟨[], .int _ _, by simp⟩)
  · cases e2
theorem readsAll_get {h : Heap} : ∀ {vs : List Value} {ds : List PyData} {as : List Addr} {j : Nat} {d : PyData}, ReadsAll h vs ds as → ds[j]? = some d → ∃ v bs, vs[j]? = some v ∧ Reads h v d bs ∧ ∀ b ∈ bs, b ∈ as
  | _, _, _, _, _, .nil, e => by simp at e
  | _, _, _, 0, _, .cons r rs, e => by
    simp at e
    subst e
    exact ⟨_, _, rfl, r, fun b hb => List.mem_append_left _ hb⟩
  | _, _, _, j + 1, _, .cons r rs, e => by
    obtain ⟨v, bs, e1, r1, hs⟩ := readsAll_get (j := j) rs (by simpa using e)
    exact ⟨v, bs, by simpa using e1, r1, fun b hb => List.mem_append_right _ (hs b hb)⟩
theorem readsAll_len {h : Heap} : ∀ {vs : List Value} {ds : List PyData} {as : List Addr}, ReadsAll h vs ds as → vs.length = ds.length
  | _, _, _, .nil => rfl
  | _, _, _, .cons r rs => by rw [List.length_cons, List.length_cons, readsAll_len rs]
/-- item i of a list or a tuple -/
def kIx (d : PyData) (i : PyData) : Option PyData := match d, i with
  | .list ds, .int i => if 0 ≤ i ∧ i < 1000000000 then ds[i.toNat]? else none
  | .tuple ds, .int i => if 0 ≤ i ∧ i < 1000000000 then ds[i.toNat]? else none
  | _, _ => none
theorem ek_ix (ha : EvK N env a f) (hb : EvK N env b f') (hs : PlainIx b := by exact fun _ _ => rfl) : EvK N env (.Subscript a b pos) fun ρ => (f ρ).bind fun d => (f' ρ).bind fun i => kIx d i := by
  intro prog w A E s g ρ d Q he hf h
  obtain ⟨d1, e1, hf⟩ := Option.bind_eq_some_iff.mp hf
  obtain ⟨d2, e2, hf⟩ := Option.bind_eq_some_iff.mp hf
  refine Subscript_ (ha prog w A E s g ρ _ _ he e1 fun u h1 tk k1 r1 => hb prog w A E _ g ρ _ _ (he.mono k1) e2 fun u2 h2 tk2 k2 r2 => ?_)
  unfold kIx at hf
  split at hf
  · split at hf
    · rename_i hi
      obtain ⟨as, r1, p1⟩ := r1
      obtain ⟨bs, r2, p2⟩ := r2
      cases r2
      cases r1 with
      | list g1 g2 g3 g4 =>
        obtain ⟨v, cs, ev, rv, hc⟩ := readsAll_get g4 hf
        have il : h2.IsList _ _ := ⟨_, k2 _ _ g1, g2, _, g3⟩
        refine item_listR (x := v) il hi.1 (by omega) (by simpa using ev) ?_ (hs _ _)
        exact h v h2 tk2 (fun b o e => k2 b o (k1 b o e)) ⟨cs, PyProof.Rows.Reads.keeps k2 rv, fun b hb => p1 b (List.mem_cons_of_mem _ (hc b hb))⟩
    · cases hf
  · split at hf
    · rename_i hi
      obtain ⟨as, r1, p1⟩ := r1
      obtain ⟨bs, r2, p2⟩ := r2
      cases r2
      cases r1 with
      | tuple g1 g2 g3 g4 =>
        rename_i n vs oo
        obtain ⟨v, cs, ev, rv, hc⟩ := readsAll_get g4 hf
        have hlt := (List.getElem?_eq_some_iff.mp ev).1
        have it : IsTup h2 _ _ := ⟨_, k2 _ _ g1, g2, _, g3⟩
        refine subscriptTail_builtinR (x := v) (Q := Q) it.typeIs slot_tuple_getitem.lookup ?_ (hs _ _)
        refine getItem_tuple (j := _) it (by omega) (by omega) (seqIndex_of hi.1 (by simp at hlt; omega)) (by simpa using ev) ⟨rfl, ?_⟩
        exact h v h2 tk2 (fun b o e => k2 b o (k1 b o e)) ⟨cs, PyProof.Rows.Reads.keeps k2 rv, fun b hb => p1 b (hc b hb)⟩
    · cases hf
  · cases hf
theorem ek_tup2 (ha : EvK N env a f) (hb : EvK N env b f') {k : Nat} (hst : backTo pos (starEach [a, b] env) = [(false, eval a env), (false, eval b env)] := by rfl) :
    EvK N env (.Tuple [a, b] k pos) fun ρ => (f ρ).bind fun d => (f' ρ).bind fun i => some (.tuple [d, i]) := by
  intro prog w A E s g ρ d Q he hf h
  obtain ⟨d1, e1, hf⟩ := Option.bind_eq_some_iff.mp hf
  obtain ⟨d2, e2, hf⟩ := Option.bind_eq_some_iff.mp hf
  cases hf
  refine wpAny_Tuple ?_
  rw [hst]
  refine Calls.spliced_cons (ha prog w A E s g ρ _ _ he e1 fun u h1 tk k1 r1 => Calls.spliced_cons (hb prog w A E _ g ρ _ _ (he.mono k1) e2 fun u2 h2 tk2 k2 r2 => Calls.spliced_nil ⟨by show 2 ≤ sizeLine; rw [sizeLine_eq]; omega, ?_⟩))
  have k3 : Keep h2 (h2.push { cls := .type "tuple", data := .seq [u, u2].toArray }) := fun b o e => Heap.get?_push_of_some _ e
  obtain ⟨as, r1, p1⟩ := r1
  obtain ⟨bs, r2, p2⟩ := r2
  refine h _ _ tk2 (fun b o e => k3 _ _ (k2 _ _ (k1 _ _ e))) ⟨as ++ (bs ++ []), .tuple (Heap.get?_push_size _ rfl) rfl rfl (.cons (PyProof.Rows.Reads.keeps (fun b o e => k3 _ _ (k2 _ _ e)) r1) (.cons (PyProof.Rows.Reads.keeps k3 r2) .nil)), fun b hb => ?_⟩
  rcases List.mem_append.mp hb with hb | hb
  · exact p1 b hb
  · exact p2 b (by simpa using hb)
end
end PD
set_option Elab.async false
set_option linter.all false
set_option autoImplicit false
set_option maxRecDepth 100000
set_option maxHeartbeats 4000000
/-! PD, part 14: sorted(xs, key=f) where f's keys may hold lists that stood before. -/
namespace PD
open PySem PySem.W PySem.Calls PyProof.Rows
section
variable {prog : Program} {w : World} {A : Around} {E : Value → Shared → Prop} {s : Shared} {a kS : Addr} {b : Bool} {vs : List Value} {e1 : Nat} {P : PySem.Fin → Shared → Prop} {kz : List PyData} {g : Heap}
/-- a call that keeps all and gives the key k, whose lists stand in g -/
def KeyRg (g : Heap) (k : PyData) (s₁ : Shared) (v : Value) (s₂ : Shared) : Prop := ∃ h' tk, s₂ = { s₁ with heap := h', toks := tk } ∧ Keep s₁.heap h' ∧ Rg g h' v k
theorem keyR_rest {f : Value} (kp : Keep g s.heap) (hkS : g.get? kS = none) (haS : g.get? a = none) (nk : s.heap.get? kS = some (seqObj "list" #[] 0)) (na : s.heap.get? a = some (seqObj "list" #[] e1)) (hka : kS ≠ a)
    (hlen : kz.length = vs.length) (hZ : vs.length ≤ sizeLine) (hal : AllAlike kz) (hsk : Sortable kz) (hu : ∀ d, d ∈ kz → A.units + d.depth < cLine)
    (turn : ∀ (i : Nat) (v : Value) (k : PyData), vs[i]? = some v → kz[i]? = some k → ∀ (h : Heap) (tk : Nat), Keep g h →
      wpAny (model prog w) A (call f [v]) (KeyRg g k { s with heap := h, toks := tk }) (fun _ _ => False) { s with heap := h, toks := tk })
    (h : ∀ h' tk out c, Keep g h' → h'.get? a = some (seqObj "list" (List.toArray out) c) → KeyedOut b kz vs out → P (.done (.ret .none)) { s with heap := h', toks := tk }) :
    wpAny (model prog w) A (ksk_rest a f b vs.toArray e1 (.ref kS)) P E s := by
  unfold ksk_rest
  refine wpAny_bind (wpAny_rule ?_)
  first
    | rw [List.forIn_toArray]
    | (rw [← Array.forIn_toList]; simp only [List.toList_toArray])
  let I : Nat → Shared → Prop := fun i s' => ∃ h' tk kA e, s' = { s with heap := h', toks := tk } ∧ Keep g h' ∧ h'.get? kS = some (seqObj "list" kA e) ∧ h'.get? a = some (seqObj "list" #[] e1) ∧
    EachIs (fun v k => Rg g h' v k ∧ alike k k = true) kA.toList (kz.take i)
  refine wpAny_bind (ksk_fold I vs 0 s ⟨s.heap, s.toks, #[], 0, rfl, kp, nk, na, by rw [List.take_zero]; exact EachIs.nil⟩ ?step ?done)
  case step =>
    rintro j x s' hx ⟨h', tk, kA, e, rfl, kp', nk', na', hk⟩
    simp only [Nat.zero_add] at hk ⊢
    have hj : j < vs.length := (List.getElem?_eq_some_iff.mp hx).1
    have hkj : kz[j]? = some (kz[j]'(by omega)) := List.getElem?_eq_getElem (by omega)
    generalize kz[j]'(by omega) = k at hkj
    have hkk : alike k k = true := hal k (List.mem_of_getElem? hkj) k (List.mem_of_getElem? hkj)
    have hz : kA.size ≤ vs.length := by
      have q := hk.length
      rw [Array.length_toList, List.length_take] at q
      omega
    refine wpAny_bind (wpAny_attempt (wpAny_mono (turn j x k hx hkj h' tk kp') (fun v s'' he => ?_) fun _ _ hF => hF.elim))
    obtain ⟨g2, tk2, rfl, hg, hr⟩ := he
    try dsimp only
    have nk2 := hg _ _ nk'
    have na2 := hg _ _ na'
    have sb := Heap.SameBut.update g2 kS (Obj.mapSeq (·.push v))
    obtain ⟨c2, hc2⟩ : ∃ c2, (g2.update kS (Obj.mapSeq (·.push v))).get? kS = some (seqObj "list" (kA.push v) c2) := ⟨_, get?_update_seq nk2 (·.push v)⟩
    have ek : kz.take (j + 1) = kz.take j ++ [k] := by rw [List.take_add_one, hkj]; rfl
    have ea : (kA.push v).toList = kA.toList ++ [v] := by simp
    refine wpAny_bind (listUpdate_at nk2 rfl ?_ (Nat.le_trans hz hZ) (Nat.le_trans (Nat.le_of_eq (Array.size_push ..)) (Nat.succ_le_succ (Nat.le_trans hz hZ))))
    have stays : ∀ (u : Value) (d : PyData), Rg g g2 u d ∧ alike d d = true → Rg g (g2.update kS (Obj.mapSeq (·.push v))) u d ∧ alike d d = true := fun u d q => by
      obtain ⟨⟨as, r, p⟩, q2⟩ := q
      refine ⟨⟨as, Reads.keepBut (a := kS) (fun b o hb e => (sb.2 b hb).trans e) (fun o e => by rw [nk2] at e; rw [← Option.some.inj e]) d u as q2 r (fun m => ?_), p⟩, q2⟩
      obtain ⟨o, e⟩ := p kS m
      rw [hkS] at e
      cases e
    have kg : Keep g (g2.update kS (Obj.mapSeq (·.push v))) := fun b o e => (sb.2 b (fun z => by rw [z, hkS] at e; cases e)).trans (hg b o (kp' b o e))
    refine wpAny_pure ⟨rfl, _, _, kA.push v, c2, rfl, kg, hc2, (sb.2 a hka.symm).trans na2, ?_⟩
    rw [ea, ek]
    refine each_snoc (R := fun (u : Value) (d : PyData) => Rg g (g2.update kS (Obj.mapSeq (·.push v))) u d ∧ alike d d = true) (stays v k ⟨hr, hkk⟩) ?_
    exact hk.mono fun u d q => stays u d ⟨q.1.mono hg, q.2⟩
  case done =>
    rintro s' ⟨h', tk, kA, e, rfl, kp', nk', na', hk⟩
    have hk' : EachIs (fun v k => ∃ as, Reads h' v k as) kA.toList kz := by
      have e3 : kz.take (0 + vs.length) = kz := List.take_of_length_le (by omega)
      rw [e3] at hk
      refine hk.mono fun v k q => ?_
      obtain ⟨⟨as, r, _⟩, _⟩ := q
      exact ⟨as, r⟩
    have hsz : kA.size = vs.length := by
      have q := hk'.length
      rw [Array.length_toList] at q
      omega
    try dsimp only
    refine wpAny_bind (listItems_at nk' rfl ?_)
    exact keyH_end (κ := dataKind h' kz) (h₁ := g) (fun b o _ e => kp' b o e) hkS nk' na' hka (SortsAt.data (s := { s with heap := h', toks := tk }) hk' hal hsk hu) hsz hZ fun h3 tk3 c k3 n3 =>
      h h3 tk3 _ c (fun b o e => k3 b o (fun z => by rw [z, haS] at e; cases e) e) n3 ⟨h', kA.toList, hal, rfl, hk'⟩
/-- sorted(xs, key=f) over the heap alone -/
theorem sortedR {l : Addr} {f : Value} {kw : List (Str × Value)} {Q : Value → Shared → Prop} (hl : s.heap.IsList l vs.toArray) (hlen : kz.length = vs.length) (hZ : vs.length ≤ sizeLine) (hal : AllAlike kz) (hsk : Sortable kz)
    (hu : ∀ d, d ∈ kz → A.in1.in1.units + d.depth < cLine) (ha1 : argsOk "sorted" ⟨[.ref l], kw⟩) (ha2 : ∀ x, argsOk "list.sort" ⟨[.ref x], kw⟩) (ht : ∀ x, Builtin.«list.sort» ⟨[.ref x], kw⟩ = ksk_tree x f b)
    (turn : ∀ (i : Nat) (v : Value) (k : PyData), vs[i]? = some v → kz[i]? = some k → ∀ (h : Heap) (tk : Nat), Keep s.heap h →
      wpAny (model prog w) A.in1.in1 (call f [v]) (KeyRg s.heap k { s with heap := h, toks := tk }) (fun _ _ => False) { s with heap := h, toks := tk })
    (h : ∀ out c h' tk, Keep s.heap h' → s.heap.get? (s.heap.objs.size + 1) = none → h'.get? (s.heap.objs.size + 1) = some (seqObj "list" (List.toArray out) c) → KeyedOut b kz vs out →
      Q (.ref (s.heap.objs.size + 1)) { s with heap := h', toks := tk }) :
    wpAny (model prog w) A (call (.builtin "sorted") [.ref l] kw) Q E s := by
  have fresh : s.heap.get? (s.heap.objs.size + 1) = none := Heap.get?_none_of_le (Nat.le_succ _)
  refine sorted_of_sort hl hZ ha1 ha2 fun E' => ?_
  rw [ht]
  have ho := copyHeap_at s.heap vs
  have old : Keep s.heap (copyHeap s.heap vs) := fun b o q => copyHeap_old q
  generalize copyHeap s.heap vs = hc at ho old
  have hc1 : s.heap.objs.size + 1 < hc.objs.size := Heap.lt_size ho
  obtain ⟨c1, ho1⟩ : ∃ c1, (hc.update (s.heap.objs.size + 1) (Obj.mapSeq fun _ => (#[] : Array Value))).get? (s.heap.objs.size + 1) = some (seqObj "list" #[] c1) := ⟨_, get?_update_seq ho fun _ => #[]⟩
  have hsz : ((hc.update (s.heap.objs.size + 1) (Obj.mapSeq fun _ => (#[] : Array Value))).push (seqObj "tuple" vs.toArray 0)).objs.size = hc.objs.size + 1 := by rw [size_push', Heap.size_update]
  unfold ksk_tree
  refine wpAny_bind (listItems_at (s := { s with heap := hc }) ho rfl ?_)
  refine wpAny_bind (listUpdate_at (s := { s with heap := hc }) ho rfl ?_ (by rw [List.size_toArray]; exact hZ) (Nat.zero_le _))
  refine wpAny_bind (seqEpoch_at ho1 rfl ?_)
  refine wpAny_bind (wpAny_newTuple ?_ (by show vs.length ≤ _; exact hZ))
  refine wpAny_bind (wpAny_newList ?_ (Nat.zero_le _))
  refine wpAny_holding ?_
  refine keyR_rest (kz := kz) (g := s.heap) (s := { s with heap := ((hc.update (s.heap.objs.size + 1) (Obj.mapSeq fun _ => (#[] : Array Value))).push (seqObj "tuple" vs.toArray 0)).push (seqObj "list" #[] 0) })
    (kS := ((hc.update (s.heap.objs.size + 1) (Obj.mapSeq fun _ => (#[] : Array Value))).push (seqObj "tuple" vs.toArray 0)).objs.size) (a := s.heap.objs.size + 1) ?_ (Heap.get?_none_of_le (by rw [hsz]; exact Nat.le_trans (Nat.le_of_lt (Nat.lt_of_succ_lt hc1)) (Nat.le_succ _))) fresh (Heap.get?_push_size _ rfl) (Heap.get?_push_of_some _ (Heap.get?_push_of_some _ ho1)) (fun z => by rw [hsz] at z; have z' : (hc.objs.size + 1 : Nat) = s.heap.objs.size + 1 := z; omega) hlen hZ hal hsk hu turn
    fun h' tk out c kg hD ko => ⟨rfl, h out c h' tk kg fresh hD ko⟩
  intro b o e
  refine Heap.get?_push_of_some _ (Heap.get?_push_of_some _ ?_)
  rw [Heap.get?_update_ne _ _ _ _ (fun z => by rw [z, fresh] at e; cases e)]
  exact old b o e
/-- one call of a lambda with one parameter -/
theorem lam_turn {f c' : Addr} {q x : Str} {params : Arguments} {body : Expr} {scope : Scope} {clo : List (Str × Addr)} {pm ctv v : Value} {N : List Str} {fk : PRho → Option PyData} {ρ : PRho} {k : PyData} (hd : A.depth < recursionLimit)
    (of : s.heap.get? f = some (kla_obj "<lambda>" q params body scope clo pm c' ctv)) (co : scope.isCoroutine = false) (gen : scope.isGenerator = false) (kind : scope.kind = .function) (code : s.heap.CodeRec (.ref c') q) (lim : s.heap.NoLimit)
    (hbind : bindArgs (kla_fn "<lambda>" q params body scope clo pm (.ref c') ctv) ⟨[v], []⟩ = pure [(x, v)]) (hnc : ∀ y ∈ scope.names, y.2 ≠ .cell) (hx : scope.names.lookup x = some .local)
    (ev : ∀ L, EvK N (envX q scope L f (.ref c') clo) body fk) (hk : fk ρ = some k)
    (at_ : ∀ h₁ : Heap, (h₁.Ns s.heap.objs.size fun y => ([(x, v)] : List (Str × Value)).reverse.lookup y) → Keep s.heap h₁ → EnvAt (envX q scope s.heap.objs.size f (.ref c') clo) N ρ g h₁) :
    wpAny (model prog w) A (call (.ref f) [v]) (KeyRg g k s) (fun _ _ => False) s := by
  have rc : codeAny (model prog w) A (.call (.ref f) ⟨[v], []⟩) (fun r s' => ∃ u, r = .ok (.ret u) ∧ KeyRg g k s u s') s := by
    refine kla_callFunE hd of rfl co gen rfl code ?_
    rw [hbind]
    refine wpAny_pure (wpAny_newFunctionEnv hnc (fun y hy => by rw [List.mem_singleton.mp hy]; exact hx) (fun h₁ hns hsb => ⟨lim.fresh _ hsb, ?_⟩) kind)
    show codeAny _ _ (.expr body (envX q scope s.heap.objs.size f (.ref c') clo)) _ _
    have kp : Keep s.heap h₁ := fun b o e => hsb.extBut b o (Nat.ne_of_lt (Heap.lt_size e)) (Heap.get?_push_of_some _ e)
    refine kla_codeExpr (ev _ prog w _ _ _ g ρ k _ (at_ h₁ hns kp) hk fun u h' tk k2 r => ?_)
    exact ⟨u, rfl, h', tk, rfl, fun b o e => k2 b o (kp b o e), r⟩
  refine wpAny_call (codeAny_mono rc fun r s' hq => ?_)
  obtain ⟨u, rfl, hq⟩ := hq
  exact hq
end
end PD
set_option Elab.async false
set_option linter.all false
set_option autoImplicit false
set_option maxRecDepth 100000
set_option maxHeartbeats 4000000
/-! PD, part 15: sorted(e, key=lambda x: body) as a rule of the layer. -/
namespace PD
open PySem PySem.Spec PyProof.Rows L2
mutual
theorem reads_addr {h : Heap} : ∀ {v : Value} {d : PyData} {as : List Addr}, Reads h v d as → ∀ b ∈ as, ∃ o, h.get? b = some o
  | _, _, _, .none, _, m => by simp at m
  | _, _, _, .bool _, _, m => by simp at m
  | _, _, _, .int _ _, _, m => by simp at m
  | _, _, _, .str _ _, _, m => by simp at m
  | _, _, _, .list e _ _ r, b, m => by
    rcases List.mem_cons.mp m with z | m
    · subst z
      exact ⟨_, e⟩
    · exact reads_addrs r b m
  | _, _, _, .tuple e _ _ r, b, m => reads_addrs r b m
  | _, _, _, .dict e _ _ r r', b, m => by
    rcases List.mem_append.mp m with m | m
    · rcases List.mem_cons.mp m with z | m
      · subst z
        exact ⟨_, e⟩
      · exact reads_addrs r b m
    · exact reads_addrs r' b m
theorem reads_addrs {h : Heap} : ∀ {v : List Value} {d : List PyData} {as : List Addr}, ReadsAll h v d as → ∀ b ∈ as, ∃ o, h.get? b = some o
  | _, _, _, .nil, _, m => by simp at m
  | _, _, _, .cons r rs, b, m => by
    rcases List.mem_append.mp m with m | m
    · exact reads_addr r b m
    · exact reads_addrs rs b m
end
/-- a lambda with the one parameter x: no other name of its own -/
structure Lam1 (sc scope : Scope) (x : Str) : Prop where
  kind : scope.kind = .function
  co : scope.isCoroutine = false
  gen : scope.isGenerator = false
  par : scope.names.lookup x = some .local
  own : ∀ y ∈ scope.names, y.2 ≠ .cell
  one : ∀ y, scope.names.lookup y = some .local → y = x
  free : ∀ y ∈ scope.names, y.2 = .free → sc.names.lookup y.1 = some .cell ∨ sc.names.lookup y.1 = some .free
def wantK (K : Frag) (T : List (Addr × Str)) (j : Nat) (fk : PRho → Option PyData) (σ : L2.St) (Q : VK) (x : V) (H1 : Hp) : Prop := LamX.Tabs T H1 ∧ ∃ (a : Addr) (xs : List V) (ks : List PyData) (ρ : PRho), x = .ref a ∧ SqL K H1 a xs ∧ xs.length ≤ 1000 ∧ ks.length = xs.length ∧ PySem.W.AllAlike ks ∧ PySem.W.Sortable ks ∧ (∀ d ∈ ks, d.depth ≤ 10) ∧
  (∀ (i : Nat) (d : PyData), ρ[i]? = some (some d) → ∃ v, σ[i]? = some (some v) ∧ Dp K H1 v d) ∧
  (∀ (i : Nat) (v : V) (k : PyData), xs[i]? = some v → ks[i]? = some k → ∃ d, Dp K H1 v d ∧ fk (ρ.set j (some d)) = some k) ∧
  ∀ (H2 : Hp) (p : Addr), LamX.ExtN H1 H2 → LamX.Tabs T H2 → H2 p = none → Q (.ref p) (upd H2 p (.lst (((xs.zip ks).mergeSort (PySem.W.dataLe false (·.2))).map (·.1))))
def tSortK (K : Frag) (T : List (Addr × Str)) (j : Nat) (fk : PRho → Option PyData) (te : TE) : TE := fun σ H Q => te σ H fun x H1 => wantK K T j fk σ Q x H1
def one1 (W : V → Hp → Prop) : List V → Hp → Prop
  | [x], H => W x H
  | _, _ => False
theorem one1_inv {W : V → Hp → Prop} : ∀ {vs : List V} {H : Hp}, one1 W vs H → ∃ x, vs = [x] ∧ W x H
  | [x], _, h => ⟨x, rfl, h⟩
  | [], _, h => h.elim
  | _ :: _ :: _, _, h => h.elim
theorem sql_ext {K : Frag} {H H' : Hp} (e : LamX.ExtN H H') {a : Addr} {xs : List V} (h : SqL K H a xs) : SqL K H' a xs := by
  rcases h with (h | ⟨o, h⟩) | h
  · exact .inl (.inl (e _ _ h (fun _ z => nomatch z)))
  · exact .inl (.inr ⟨o, e _ _ h (fun _ z => nomatch z)⟩)
  · exact .inr h
theorem sqt_ext {K : Frag} {H H' : Hp} (e : LamX.ExtN H H') {a : Addr} {xs : List V} (h : SqT K H a xs) : SqT K H' a xs := by
  rcases h with (h | ⟨o, h⟩) | h
  · exact .inl (.inl (e _ _ h (fun _ z => nomatch z)))
  · exact .inl (.inr ⟨o, e _ _ h (fun _ z => nomatch z)⟩)
  · exact .inr h
mutual
theorem dp_ext {K : Frag} {H H' : Hp} (e : LamX.ExtN H H') : ∀ {v : V} {d : PyData}, Dp K H v d → Dp K H' v d
  | _, _, .non => .non
  | _, _, .bl b => .bl b
  | _, _, .int i => .int i
  | _, _, .str x => .str x
  | _, _, .lst h r => .lst (sql_ext e h) (dps_ext e r)
  | _, _, .tup h r => .tup (sqt_ext e h) (dps_ext e r)
theorem dps_ext {K : Frag} {H H' : Hp} (e : LamX.ExtN H H') : ∀ {v : List V} {d : List PyData}, DpAll K H v d → DpAll K H' v d
  | _, _, .nil => .nil
  | _, _, .cons h r => .cons (dp_ext e h) (dps_ext e r)
end
theorem each_zip : ∀ {xs : List V} {us : List Value} {ks : List PyData}, Vals xs us → ks.length = xs.length → PySem.W.EachIs (fun (v : Value) (q : V × PyData) => L2.RelV q.1 v) us (xs.zip ks)
  | _, _, [], .nil, _ => .nil
  | _, _, k :: ks, .cons r rs, h => .cons r (each_zip rs (by simpa using h))
theorem vals_each : ∀ {us : List Value} {qs : List (V × PyData)}, PySem.W.EachIs (fun (v : Value) (q : V × PyData) => L2.RelV q.1 v) us qs → Vals (qs.map (·.1)) us
  | _, _, .nil => .nil
  | _, _, .cons r rs => .cons r (vals_each rs)
theorem zip_snd : ∀ {xs : List V} {ks : List PyData}, ks.length = xs.length → (xs.zip ks).map (·.2) = ks
  | [], [], _ => rfl
  | x :: xs, k :: ks, h => by simp only [List.zip_cons_cons, List.map_cons]; rw [zip_snd (by simpa using h)]
section
variable {X : Cx} {e body : Expr} {te : TE} {params : Arguments} {scope : Scope} {lpos kpos pos p : Pos} {c P : Addr} {T : List (Addr × Str)} {x : Str} {j k : Nat} {fk : PRho → Option PyData}
theorem pe_sortK (hg : Gl X "sorted") (hm : X.mg "sorted" = none) (he : PE X e te) (TB : LamX.TabB X.base X.mg c P) (hcode : X.env.code = .ref c) (hmT : (P, X.env.qual ++ "<lambda>") ∈ T) (hu : ∀ p ∈ T, p.1 = P → p.2 = X.env.qual ++ "<lambda>")
    (hr : Room k X.A) (L : Lam1 X.env.scope scope x) (hdef : defaultsOf params X.env = ([], []))
    (hbind : ∀ (q : Str) (cl : List (Str × Addr)) (pm cv ctv v : Value), bindArgs (PySem.W.kla_fn "<lambda>" q params body scope cl pm cv ctv) ⟨[v], []⟩ = pure [(x, v)])
    (hnd : X.N.Nodup) (hN : X.N[j]? = some x) (hev : ∀ (q : Str) (L f : Addr) (cv : Value) (clo : List (Str × Addr)), EvK X.N (PySem.W.envX q scope L f cv clo) body fk)
    (hst0 : starEach [e] X.env = (false, eval e X.env) :: starEach [] X.env := by rfl) (hst : backTo pos (starEach [e] X.env) = (false, eval e X.env) :: backTo pos (starEach [] X.env) := by rfl) (hpl : (backTo pos (starEach [e] X.env)).any (·.1) = false := by rfl) :
    PE X (.Call (.Name "sorted" p) [e] [⟨some "key", .Lambda params body scope lpos, kpos⟩] pos) (tSortK X.K T j fk te) := by
  refine ⟨fun pins s σ H Q I h => ?_⟩
  refine wpAny_Call_Name_kw (ld_blt I hg hm boot_sorted ?_ (by decide) (by decide))
  have hfree : ∀ y ∈ scope.names, y.2 = .free → ∃ c, X.env.cells.lookup y.1 = some c := fun y hy ey => by
    rcases L.free y hy ey with k | k
    · exact I.ok.has _ (.inl k)
    · exact I.ok.has _ (.inr k)
  refine PyProof.Rows.callWith_kw (thn ((pa_cons he pa_nil hst0).run pos pins s σ H (one1 (wantK X.K T j fk σ Q)) I h) fun us s1 ⟨vs, H1, I1, r1, q1⟩ => ?_) hst hpl rfl rfl
  show wpAny _ _ (evalAll ((do let v ← eval (.Lambda params body scope lpos) X.env; standAt pos; pure v) :: [])) _ _ s1
  obtain ⟨x0, rfl, hT, a, xs, ks, ρ, rfl, hs, hz, hlen, hal, hsk, hdp, hρ, hks, hQ⟩ := one1_inv q1
  obtain rfl := Vals.ref1 r1
  refine wpAny_evalAll_cons (wpAny_bind (LamX.lam_make2 I1 TB hcode hmT hu hT hdef hfree fun f c' pm ctv H2 s2 I2 eN T2 hf hfn hfr hco => wpAny_bind (wpAny_standAt (wpAny_pure ?_))))
  refine wpAny_evalAll_nil ?_
  show wpAny _ _ (call (.builtin "sorted") [.ref a] [(Str.ofString "key", .ref f)]) _ _ _
  obtain ⟨its, rv, pl, _⟩ := I2.list (sql_ext eN hs)
  have hl := rv.length
  have hz' : its.length ≤ sizeLine := by rw [← hl, sizeLine_eq]; omega
  refine sortedR (kz := ks) (b := false) pl.isList (by rw [hlen, hl]) hz' hal hsk ?_ (ksk_s1 _ _) (fun _ => ksk_l1 _ _) (fun y => ksk_t1 f y) ?_ ?_
  · intro d hd
    have := hdp d hd
    have := hr.un
    show X.A.units + 1 + 1 + d.depth < cLine
    omega
  · intro i v kk hv hk h tk kp
    obtain ⟨⟨oc, vs, t, hoc, hdc, hvc⟩, _, _⟩ := I2.hok c' _ hco
    obtain ⟨xv, exv⟩ : ∃ xv, xs[i]? = some xv ∧ L2.RelV xv v := by
      have hi : i < xs.length := by rw [hl]; exact (List.getElem?_eq_some_iff.mp hv).1
      have e0 := List.getElem?_eq_getElem hi
      obtain ⟨u, eu, ru⟩ := rv.get e0
      rw [hv] at eu
      cases eu
      exact ⟨_, e0, ru⟩
    obtain ⟨d, hdd, hfk⟩ := hks i xv kk exv.1 hk
    refine lam_turn (ρ := ρ.set j (some d)) (N := X.N) (s := { s2 with heap := h, toks := tk }) hr.depth (kp _ _ hf) L.co L.gen L.kind ⟨c', oc, vs, t, rfl, kp _ _ hoc, hdc, hvc⟩ (I2.nolimit.keeps kp) (hbind _ _ _ _ _ _) L.own L.par (fun Lc => hev _ Lc f _ _) hfk fun h₁ hns kp1 => ?_
    intro m y dd e1 e2
    have all : Keep s2.heap h₁ := fun b o e => kp1 _ _ (kp _ _ e)
    by_cases hmj : j = m
    · subst hmj
      rw [hN] at e1
      cases e1
      have hj : j < ρ.length := by
        have := (List.getElem?_eq_some_iff.mp e2).1
        rwa [List.length_set] at this
      rw [List.getElem?_set_self hj] at e2
      cases e2
      obtain ⟨as, r⟩ := Dp.reads I2 d xv v (dp_ext eN hdd) exv.2
      refine ⟨fun q => ⟨v, _, hns, by simp [List.lookup], as, PyProof.Rows.Reads.keeps all r, reads_addr r⟩, fun q => ?_⟩
      have q' : scope.names.lookup x = some .free := q
      rw [L.par] at q'
      cases q'
    · rw [List.getElem?_set_ne hmj] at e2
      obtain ⟨vv, es, hdp2⟩ := hρ m dd e2
      refine ⟨fun q => ?_, fun q => ?_⟩
      · have q' : scope.names.lookup y = some .local := q
        have z := L.one y q'
        subst z
        exact absurd ((List.getElem?_inj (List.getElem?_eq_some_iff.mp hN).1 hnd).mp (hN.trans e1.symm)) hmj
      · have q' : scope.names.lookup y = some .free := q
        have hy : (y, NameKind.free) ∈ scope.names := PySem.mem_of_lookup q'
        have vis : Vis X.env.scope y := (L.free _ hy rfl).elim (fun k => .inr (.inl k)) (fun k => .inr (.inr k))
        obtain ⟨mm, _, hl2⟩ := I2.loc
        obtain ⟨u, ru, lk⟩ := hl2 m y vv e1 es vis
        obtain ⟨c2, h2⟩ := L2.mem_lookup (cloFrom_has (cells := X.env.cells) (acc := []) hy)
        have cm : X.env.cells.lookup y = some c2 := by
          rcases cloFrom_mem (PySem.mem_of_lookup h2) with hm | ⟨_, h3⟩
          · cases hm
          · obtain ⟨c1, hc⟩ := hfree _ hy rfl
            have hc : X.env.cells.lookup y = some c1 := hc
            rw [hc] at h3 ⊢
            rw [h3]
            rfl
        rcases lk with ⟨k', _⟩ | ⟨_, c3, e3, ⟨o, ho, hd⟩⟩
        · have k' : X.env.scope.names.lookup y = some .local := k'
          rcases L.free _ hy rfl with k2 | k2 <;> rw [show X.env.scope.names.lookup y = _ from k2] at k' <;> cases k'
        · rw [cm] at e3
          cases e3
          obtain ⟨as, r⟩ := Dp.reads I2 dd vv u (dp_ext eN hdp2) ru
          exact ⟨u, c2, h2, ⟨o, all _ _ ho, hd⟩, as, PyProof.Rows.Reads.keeps all r, reads_addr r⟩
  · intro out cc h' tk kp hn hD ko
    have ez : (xs.zip ks).map (·.2) = ks := zip_snd hlen
    rw [← ez] at ko
    have each := PySem.W.keyedOut_each (R := fun (v : Value) (q : V × PyData) => L2.RelV q.1 v) (·.2) ko (each_zip rv hlen)
    have vo := vals_each each
    have len : (((xs.zip ks).mergeSort (PySem.W.dataLe false (·.2))).map (·.1)).length ≤ sizeLine := by
      rw [List.length_map, List.length_mergeSort, List.length_zip, sizeLine_eq]
      omega
    exact ⟨.ref _, upd H2 (s2.heap.objs.size + 1) (.lst (((xs.zip ks).mergeSort (PySem.W.dataLe false (·.2))).map (·.1))), I2.laid (t' := tk) kp (Nat.le_succ _) ⟨len, out, cc, vo, hD⟩, rfl, hQ H2 _ eN T2 (I2.hok.fresh (Nat.le_succ _))⟩
end
end PD
set_option Elab.async false
set_option linter.all false
set_option autoImplicit false
set_option maxRecDepth 100000
set_option maxHeartbeats 4000000
/-! PD, part 16: sorted(e, key=lambda x: body) at the level of data; the rule for a def that makes lambdas. -/
namespace PD
open PySem PySem.Spec PyProof.Rows L2
/-- the slots that hold plain data -/
def pR (ρ : Rho) : PRho := ρ.map fun o => match o with
  | some d => if plain d = true then some (pyOf d) else none
  | none => none
theorem pR_at {ρ : Rho} {i : Nat} {p : PyData} (h : (pR ρ)[i]? = some (some p)) : ∃ d, ρ[i]? = some (some d) ∧ plain d = true ∧ p = pyOf d := by
  rw [pR, List.getElem?_map] at h
  obtain ⟨o, e, h⟩ := Option.map_eq_some_iff.mp h
  split at h
  · split at h
    · rename_i d hp
      cases h
      exact ⟨d, e, hp, rfl⟩
    · cases h
  · cases h
def sortBy (ds : List D) (ks : List PyData) : List D := ((ds.zip ks).mergeSort (PySem.W.dataLe false (·.2))).map (·.1)
def aSortK (j : Nat) (fk : PRho → Option PyData) (t : AE) : AE := fun ρ κ R => t ρ κ fun d κ1 => ∃ (ds : List D) (ks : List PyData), seqOf κ1 d = some ds ∧ ds.length ≤ 1000 ∧ ks.length = ds.length ∧ PySem.W.AllAlike ks ∧ PySem.W.Sortable ks ∧ (∀ d ∈ ks, d.depth ≤ 10) ∧ plains ds = true ∧
  (∀ (i : Nat) (x : D) (k : PyData), ds[i]? = some x → ks[i]? = some k → fk ((pR ρ).set j (some (pyOf x))) = some k) ∧ R (.lst (sortBy ds ks)) κ1
theorem plains_mem : ∀ {ds : List D} {d : D}, plains ds = true → d ∈ ds → plain d = true
  | x :: ds, d, h, m => by
    rw [plains, Bool.and_eq_true] at h
    rcases List.mem_cons.mp m with z | m
    · rw [z]; exact h.1
    · exact plains_mem h.2 m
section
variable {K : Frag} {mg : MG} {w : Wd}
theorem rps_of_map {α : Type} {f : α → V} {g : α → D} : ∀ {ts : List α}, (∀ t ∈ ts, Rp K mg w (f t) (g t)) → Rps K mg w (ts.map f) (ts.map g)
  | [], _ => .nil
  | t :: ts, h => .cons (h t (by simp)) (rps_of_map fun x hx => h x (by simp [hx]))
theorem rps_zip_mem : ∀ {xs : List V} {ds : List D}, Rps K mg w xs ds → ∀ p ∈ xs.zip ds, Rp K mg w p.1 p.2
  | _, _, .nil, _, m => by simp at m
  | _, _, .cons r rs, p, m => by
    rcases List.mem_cons.mp (by simpa using m) with z | m
    · rw [z]; exact r
    · exact rps_zip_mem rs p m
theorem zip_fst {α β : Type} : ∀ {xs : List α} {ys : List β}, xs.length = ys.length → (xs.zip ys).map (·.1) = xs
  | [], [], _ => rfl
  | x :: xs, y :: ys, h => by simp only [List.zip_cons_cons, List.map_cons]; rw [zip_fst (by simpa using h)]
theorem zip_snd' {α β : Type} : ∀ {xs : List α} {ys : List β}, xs.length = ys.length → (xs.zip ys).map (·.2) = ys
  | [], [], _ => rfl
  | x :: xs, y :: ys, h => by simp only [List.zip_cons_cons, List.map_cons]; rw [zip_snd' (by simpa using h)]
theorem zip_map_l {α β γ : Type} (f : α → γ) : ∀ (xs : List α) (ys : List β), (xs.zip ys).map (fun p => (f p.1, p.2)) = (xs.map f).zip ys
  | [], _ => rfl
  | _ :: _, [] => rfl
  | x :: xs, y :: ys => by simp only [List.zip_cons_cons, List.map_cons]; rw [zip_map_l f xs ys]
theorem rps_sort {xs : List V} {ds : List D} {ks : List PyData} (r : Rps K mg w xs ds) : Rps K mg w (((xs.zip ks).mergeSort (PySem.W.dataLe false (·.2))).map (·.1)) (sortBy ds ks) := by
  have l := r.length
  have e1 : (((xs.zip ds).zip ks).mergeSort (PySem.W.dataLe false (·.2))).map (fun t => (t.1.1, t.2)) = (xs.zip ks).mergeSort (PySem.W.dataLe false (·.2)) := by
    rw [List.map_mergeSort (l := (xs.zip ds).zip ks) (r := PySem.W.dataLe false (fun q : (V × D) × PyData => q.2)) (s := PySem.W.dataLe false (fun q : V × PyData => q.2)) (f := fun t : (V × D) × PyData => (t.1.1, t.2)) (fun a _ b _ => rfl), zip_map_l (fun q : V × D => q.1), zip_fst l]
  have e2 : (((xs.zip ds).zip ks).mergeSort (PySem.W.dataLe false (·.2))).map (fun t => (t.1.2, t.2)) = (ds.zip ks).mergeSort (PySem.W.dataLe false (·.2)) := by
    rw [List.map_mergeSort (l := (xs.zip ds).zip ks) (r := PySem.W.dataLe false (fun q : (V × D) × PyData => q.2)) (s := PySem.W.dataLe false (fun q : D × PyData => q.2)) (f := fun t : (V × D) × PyData => (t.1.2, t.2)) (fun a _ b _ => rfl), zip_map_l (fun q : V × D => q.2), zip_snd' l]
  rw [sortBy, ← e1, ← e2, List.map_map, List.map_map]
  refine rps_of_map fun t ht => ?_
  have ht' : t ∈ (xs.zip ds).zip ks := (List.mergeSort_perm _ _).mem_iff.mp ht
  exact rps_zip_mem r t.1 (List.of_mem_zip (a := t.1) (b := t.2) ht').1
/-- the tables grow; all else stays -/
theorem to_tab {H' : Hp} (ok : WOk K mg w) (e : LamX.ExtN w.H H') (T : LamX.Tabs mg.tb H') : To K mg w { w with H := H' } := by
  have nt : ∀ {o : HO}, MutD (some o) → ∀ ps, o ≠ .tbl ps := fun m ps z => by subst z; exact m
  have g : Gr w { w with H := H' } := ⟨⟨[], by simp⟩, fun a o h z n => ⟨e a o h z, n⟩, fun a xs h => e a _ h (fun _ z => nomatch z), fun a o u h => e a _ h (fun _ z => nomatch z)⟩
  refine ⟨g, rfl, ok.len, fun k c h => ?_, ok.inj, fun a o m => ?_, ok.hidC, ok.hidN, T⟩
  · obtain ⟨a, ea, r⟩ := ok.at_ k c h
    obtain ⟨o, eo, mo⟩ := r.some
    exact ⟨a, ea, r.mono_of g ((e a o eo (nt mo)).trans eo.symm)⟩
  · obtain ⟨h1, h2⟩ := ok.hidH a o m
    exact ⟨e a o h1 (nt h2), h2⟩
end
section
variable {Θ : TbL} {X : Cx} {e body : Expr} {t : AE} {params : Arguments} {scope : Scope} {lpos kpos pos p : Pos} {c P : Addr} {x : Str} {j k : Nat} {fk : PRho → Option PyData}
theorem q_sortK (j : Nat) (hm : X.mg "sorted" = none) (he : QE Θ X e t) (TB : LamX.TabB X.base X.mg c P) (hcode : X.env.code = .ref c) (hmT : (P, X.env.qual ++ "<lambda>") ∈ Θ) (hu : ∀ p ∈ Θ, p.1 = P → p.2 = X.env.qual ++ "<lambda>")
    (hr : Room k X.A) (L : Lam1 X.env.scope scope x) (hdef : defaultsOf params X.env = ([], []))
    (hbind : ∀ (q : Str) (cl : List (Str × Addr)) (pm cv ctv v : Value), bindArgs (PySem.W.kla_fn "<lambda>" q params body scope cl pm cv ctv) ⟨[v], []⟩ = pure [(x, v)])
    (hnd : X.N.Nodup) (hN : X.N[j]? = some x) (hev : ∀ (q : Str) (L f : Addr) (cv : Value) (clo : List (Str × Addr)), EvK X.N (PySem.W.envX q scope L f cv clo) body fk) (hg : Gl X "sorted" := by rfl)
    (hst0 : starEach [e] X.env = (false, eval e X.env) :: starEach [] X.env := by rfl) (hst : backTo pos (starEach [e] X.env) = (false, eval e X.env) :: backTo pos (starEach [] X.env) := by rfl) (hpl : (backTo pos (starEach [e] X.env)).any (·.1) = false := by rfl) :
    QE Θ X (.Call (.Name "sorted" p) [e] [⟨some "key", .Lambda params body scope lpos, kpos⟩] pos) (aSortK j fk t) := (pe_sortK hg hm he TB hcode hmT hu hr L hdef hbind hnd hN hev hst0 hst hpl).imp (by
  rintro σ H Q ⟨w, ρ, R, rfl, ok, st, h, k⟩
  refine ⟨w, ρ, _, rfl, ok, st, h, fun d w1 v1 h1 t1 r1 => ?_⟩
  obtain ⟨ds, ks, e1, hz, hl, hal, hsk, hdp, hpd, hks, hR⟩ := h1
  obtain ⟨a, xs, rfl, hs, rs⟩ := seqOf_at t1.ok r1 e1
  have lx := rs.length
  refine ⟨t1.ok.tab, a, xs, ks, pR ρ, rfl, hs, by omega, by omega, hal, hsk, hdp, fun i d hi => ?_, fun i v kk hv hk => ?_, fun H2 p eN T2 hp => ?_⟩
  · obtain ⟨dd, e2, hp, rfl⟩ := pR_at hi
    obtain ⟨v, ev, rv⟩ := st.at_ i dd e2
    exact ⟨v, ev, dp_of dd v hp (rv.mono t1.gr)⟩
  · have hi : i < ds.length := by rw [← lx]; exact (List.getElem?_eq_some_iff.mp hv).1
    have e2 := List.getElem?_eq_getElem hi
    obtain ⟨v', ev, rv⟩ := rs.get e2
    rw [hv] at ev
    cases ev
    exact ⟨_, dp_of _ v (plains_mem hpd (List.getElem_mem hi)) rv, hks i _ kk e2 hk⟩
  · have t2 := to_tab t1.ok eN T2
    obtain ⟨t3, r3⟩ := lst_new t2.ok hp (rps_sort (ks := ks) (rs.mono t2.gr))
    exact k _ (Wd.put { w1 with H := H2 } p _) _ hR ((t1.trans t2).trans t3) r3)
end
section
variable {P : Program} {w : World} {K : Frag} {mg : Str → Option Value} {base : Heap} {Θ : TbL}
/-- the rule for a def, its own code object told -/
theorem fn_pdL {x qual : Str} {st : Stmt} {f : Addr} {fd : FuncData} {N ps : List Str} {k : Nat} {G : Con} {t : AS} (F : Fun K x qual st f fd) (S : FnScope N ps (defScope st)) (len : ∀ ds κ R, G ds κ R → ds.length = ps.length)
    (hd : ∀ (A : Around) (outer : List Env) (s : Shared) (H : Hp) (E : XK), Room k (A.deeper (envOfC qual (defScope st) s.heap.objs.size f fd.code)) →
      QSs Θ (cxOf CX0 P w K mg base N qual (defScope st) f fd.code A outer s H E).nox (defBody st) t) (hb : Body N t G) : FnOk P w K mg base CX0 (k + 1) f fd ps (spOf K ⟨mg, w, Θ⟩ G) := by
  obtain ⟨oc, od, kV, doc, pm, an, cdv, ct, osl, rfl, lk, hcd⟩ := F.ex
  refine fn_of lk hcd S (fun vs H Q E h => ?_) fun A outer s H vs Q E hr h => ?_
  · obtain ⟨w, ds, R, _, _, r, h, _⟩ := h
    rw [r.length]
    exact len _ _ _ h
  · obtain ⟨w', ds, R, rfl, ok, r, h, k⟩ := h
    have co : CsOk w'.ce ds := ⟨fun k c e => ok.blw e, by rw [← ok.len]; exact r.blw⟩
    refine ⟨_, (hd A outer s w'.H E hr).nox, ⟨w', PD.start N ds, _, rfl, ok, st_start N r, hb ds w'.ce R co h, ⟨fun ρ w2 σ hu t' s' => ?_, fun d w2 v hu t' r' => ?_, fun _ _ _ hu _ _ => hu.elim, fun _ _ _ hu _ _ => hu.elim⟩⟩⟩
    · exact fin_use (Q := Q) ok hu t' .non k
    · exact fin_use (Q := Q) ok hu t' r' k
end
end PD
namespace PD
open PySem PySem.Spec PyProof.Rows L2
/-- Lam1, by computing -/
def lam1B (sc scope : Scope) (x : Str) : Bool :=
  decide (scope.kind = .function) && !scope.isCoroutine && !scope.isGenerator && decide (scope.names.lookup x = some .local) && scope.names.all fun y => !decide (y.2 = .cell) && (!decide (y.2 = .local) || decide (y.1 = x)) && (!decide (y.2 = .free) || decide (sc.names.lookup y.1 = some .cell) || decide (sc.names.lookup y.1 = some .free))
theorem lam1_by {sc scope : Scope} {x : Str} (h : lam1B sc scope x = true) : Lam1 sc scope x := by
  unfold lam1B at h
  simp only [Bool.and_eq_true, Bool.or_eq_true, Bool.not_eq_true', decide_eq_true_eq, decide_eq_false_iff_not, List.all_eq_true] at h
  obtain ⟨⟨⟨⟨h1, h2⟩, h3⟩, h4⟩, h5⟩ := h
  refine ⟨h1, h2, h3, h4, fun y hy => (h5 y hy).1.1, fun y hy => ?_, fun y hy e => ?_⟩
  · have m := PySem.mem_of_lookup hy
    rcases (h5 _ m).1.2 with z | z
    · exact absurd rfl z
    · exact z
  · rcases (h5 y hy).2 with (z | z) | z
    · exact absurd e z
    · exact .inl z
    · exact .inr z
end PD
set_option Elab.async false
set_option linter.all false
set_option autoImplicit false
set_option maxRecDepth 100000
set_option maxHeartbeats 4000000
/-! PD, part 17: dicts whose keys are tuples at any depth: {}, k in d, k not in d, d[k] = v. -/
namespace PD
open PySem PySem.Spec PyProof.Rows L2
mutual
/-- the value v is the key k -/
inductive Nk (K : Frag) (H : Hp) : V → NestedKey → Prop
  | non : Nk K H .non .none
  | int (i : Int) : Nk K H (.int i) (.num i)
  | str (x : Str) : Nk K H (.str x) (.text x)
  | tup {a : Addr} {xs : List V} {ks : List NestedKey} : SqT K H a xs → Nks K H xs ks → Nk K H (.ref a) (.tup ks)
inductive Nks (K : Frag) (H : Hp) : List V → List NestedKey → Prop
  | nil : Nks K H [] []
  | cons {v : V} {vs : List V} {k : NestedKey} {ks : List NestedKey} : Nk K H v k → Nks K H vs ks → Nks K H (v :: vs) (k :: ks)
end
mutual
theorem nk_of {K : Frag} {mg : MG} {w : Wd} : ∀ {d : D} {v : V} {k : NestedKey}, Rp K mg w v d → nkOf d = some k → Nk K w.H v k
  | .non, _, _, r, e => by cases r; cases e; exact .non
  | .int i, _, _, r, e => by cases r; cases e; exact .int i
  | .str i, _, _, r, e => by cases r; cases e; exact .str i
  | .tup ds, _, _, r, e => by
    rw [nkOf] at e
    obtain ⟨ks, e1, rfl⟩ := Option.map_eq_some_iff.mp e
    cases r with
    | tup h1 h2 => exact .tup h1 (nks_of h2 e1)
theorem nks_of {K : Frag} {mg : MG} {w : Wd} : ∀ {ds : List D} {vs : List V} {ks : List NestedKey}, Rps K mg w vs ds → nkOfs ds = some ks → Nks K w.H vs ks
  | [], _, _, r, e => by cases r; cases e; exact .nil
  | d :: ds, _, _, r, e => by
    rw [nkOfs] at e
    obtain ⟨k, e1, e⟩ := Option.bind_eq_some_iff.mp e
    obtain ⟨ks, e2, rfl⟩ := Option.map_eq_some_iff.mp e
    cases r with
    | cons r1 r2 => exact .cons (nk_of r1 e1) (nks_of r2 e2)
end
section
variable {X : Cx} {pins : List (Addr × Obj)} {σ : L2.St} {H : Hp} {s : Shared}
mutual
theorem Nk.is (I : Inv X pins σ H s) : ∀ {k : NestedKey} {v : V} {u : Value}, Nk X.K H v k → L2.RelV v u → NestedIs s.heap k u
  | .none, _, _, .non, r => by
    obtain rfl : _ = Value.none := r
    exact .none
  | .num _, _, _, .int i, r => by
    obtain ⟨t, rfl⟩ := r
    exact .int i t
  | .text _, _, _, .str x, r => by
    obtain ⟨t, rfl⟩ := r
    exact .text x t
  | .tup _, _, _, .tup h hs, r => by
    obtain rfl : _ = Value.ref _ := r
    obtain ⟨its, rv, ⟨o, e, c, n, d⟩, _⟩ := I.tuple h
    exact .tup e c d (Nks.is I hs (by simpa using rv))
theorem Nks.is (I : Inv X pins σ H s) : ∀ {ks : List NestedKey} {vs : List V} {us : List Value}, Nks X.K H vs ks → Vals vs us → NestedAll s.heap ks us
  | _, _, _, .nil, .nil => .nil
  | _, _, _, .cons h hs, .cons r rs => .cons (Nk.is I h r) (Nks.is I hs rs)
end
theorem dic_at (I : Inv X pins σ H s) {a : Addr} {xs : List (NestedKey × Addr × Value)} (h : H a = some (DicO X.w a xs)) (hk : ∀ x ∈ xs, Nk X.K H (.ref x.2.1) x.1 ∧ x.1.depth ≤ 8) :
    (a == sysModules) = false ∧ s.heap.DictOfH (nestedKind X.prog X.w) a xs := by
  obtain ⟨⟨h1, o, es, ep, e1, e2, e3, e4, e5⟩, _, _⟩ := I.hok a _ h
  exact ⟨h1, o, es, ep, e1, e2, e3, e4, fun x hx => ⟨Nk.is I (hk x hx).1 rfl, (hk x hx).2⟩, e5⟩
theorem dic_ok {P : Program} {w : World} {H' : Hp} {h : Heap} {a : Addr} {xs : List (NestedKey × Addr × Value)} (h1 : (a == sysModules) = false) (m : h.DictOfH (nestedKind P w) a xs) : ObjOk P w H' h a (DicO w a xs) := by
  obtain ⟨o, es, ep, e1, e2, e3, e4, _, e5⟩ := m
  refine ⟨⟨h1, o, es, ep, e1, e2, e3, e4, e5⟩, ⟨o, e1⟩, fun g1 g2 ⟨q, o', es', ep', f1, f⟩ st => ⟨q, o', es', ep', st _ f1, f⟩⟩
/-- {} -/
def tDicNew (wo : World) : TE := fun _ H Q => ∀ p, H p = none → Q (.ref p) (upd H p (DicO wo p []))
theorem pe_dicNew {pos : Pos} : PE X (.Dict [] [] pos) (tDicNew X.w) := ⟨fun pins s σ H Q I h =>
  wpAny_Dict_empty ⟨.ref s.heap.objs.size, _, I.laid (a := s.heap.objs.size) (o := DicO X.w s.heap.objs.size []) (t' := s.toks) (fun _ _ q => Heap.get?_push_of_some _ q) (Nat.le_refl _)
    (dic_ok (P := X.prog) (by
      have := I.big
      exact beq_eq_false_iff_ne.mpr (fun z => by rw [z] at this; exact Nat.lt_irrefl _ this)) (Heap.DictOfH.new s.heap)), rfl, h _ (I.hok.fresh (Nat.le_refl _))⟩⟩
/-- key in d, key not in d, with the answer f -/
def rInN (K : Frag) (wo : World) (f : Bool → Bool) : R2 := fun x y H Q => ∃ (a b : Addr) (k : NestedKey) (xs : List (NestedKey × Addr × Value)), x = .ref b ∧ y = .ref a ∧ H a = some (DicO wo a xs) ∧ Nk K H (.ref b) k ∧ k.depth ≤ 8 ∧ (∀ x ∈ xs, Nk K H (.ref x.2.1) x.1 ∧ x.1.depth ≤ 8) ∧ Q (.bl (f (atKey xs k).isSome)) H
theorem or_inN (hu : X.A.units + 64 < cLine) : OpR X (compareOp .In) (rInN X.K X.w id) := by
  intro pins s σ H x y v u Q I rx ry h
  obtain ⟨a, b, k, xs, rfl, rfl, ha, hk, hd, hx, q⟩ := h
  cases rx
  cases ry
  obtain ⟨h1, m⟩ := dic_at I ha hx
  exact wpAny_in_heap (knd := nestedKind X.prog X.w) (by show X.A.units + 1 + 8 < cLine; omega) ⟨Nk.is I hk rfl, hd⟩ h1 m ⟨.bl _, H, I.tok _, rfl, q⟩
theorem or_notInN (hu : X.A.units + 64 < cLine) : OpR X (compareOp .NotIn) (rInN X.K X.w not) := by
  intro pins s σ H x y v u Q I rx ry h
  obtain ⟨a, b, k, xs, rfl, rfl, ha, hk, hd, hx, q⟩ := h
  cases rx
  cases ry
  obtain ⟨h1, m⟩ := dic_at I ha hx
  exact wpAny_notIn_heap (knd := nestedKind X.prog X.w) (by show X.A.units + 1 + 8 < cLine; omega) ⟨Nk.is I hk rfl, hd⟩ h1 m ⟨.bl _, H, I.tok _, rfl, q⟩
end
end PD
set_option Elab.async false
set_option linter.all false
set_option autoImplicit false
set_option maxRecDepth 100000
set_option maxHeartbeats 4000000
/-! PD, part 18: such dicts at the level of data. -/
namespace PD
open PySem PySem.Spec PyProof.Rows L2
def hasK (kvs : List (D × D)) (d : D) : Bool := kvs.any fun p => decide (nkOf p.1 = nkOf d)
def putDic (kvs : List (D × D)) (i d : D) : List (D × D) := if hasK kvs i = true then kvs.map (fun p => if nkOf p.1 = nkOf i then (p.1, d) else p) else kvs ++ [(i, d)]
theorem has_at {kvs : List (D × D)} {xs : List (NestedKey × Addr × Value)} {d : D} {k : NestedKey} (h : kvs.map (fun p => nkOf p.1) = xs.map (fun x => some x.1)) (e : nkOf d = some k) : (atKey xs k).isSome = hasK kvs d := by
  have e1 : hasK kvs d = (kvs.map (fun p => nkOf p.1)).any fun o => decide (o = some k) := by
    rw [List.any_map, hasK, e]
    rfl
  have e2 : (atKey xs k).isSome = xs.any fun x => decide (x.1 = k) := by
    rw [atKey, Option.isSome_map, List.isSome_find?]
  rw [e1, e2, h, List.any_map]
  congr 1
  funext x
  simp
section
variable {K : Frag} {mg : MG} {w : Wd}
theorem put_old {k : NestedKey} {i d : D} {v : V} {u : Value} (e : nkOf i = some k) (rv : L2.RelV v u) (rd : Rp K mg w v d) : ∀ {kvs : List (D × D)} {xs : List (NestedKey × Addr × Value)} {vs : List V}, kvs.map (fun p => nkOf p.1) = xs.map (fun x => some x.1) →
    Rps K mg w (xs.map fun x => V.ref x.2.1) (kvs.map (·.1)) → Vals vs (xs.map (·.2.2)) → Rps K mg w vs (kvs.map (·.2)) →
    ∃ vs', (kvs.map (fun p => if nkOf p.1 = nkOf i then (p.1, d) else p)).map (fun p => nkOf p.1) = (xs.map (putAt k u)).map (fun x => some x.1) ∧ Rps K mg w ((xs.map (putAt k u)).map fun x => V.ref x.2.1) ((kvs.map (fun p => if nkOf p.1 = nkOf i then (p.1, d) else p)).map (·.1)) ∧
      Vals vs' ((xs.map (putAt k u)).map (·.2.2)) ∧ Rps K mg w vs' ((kvs.map (fun p => if nkOf p.1 = nkOf i then (p.1, d) else p)).map (·.2))
  | [], [], vs, _, _, hv, hr => ⟨vs, rfl, .nil, hv, hr⟩
  | [], _ :: _, _, h, _, _, _ => by simp at h
  | _ :: _, [], _, h, _, _, _ => by simp at h
  | p :: kvs, x :: xs, vs, h, h1, hv, hr => by
    simp only [List.map_cons, List.cons.injEq] at h
    cases hv with
    | @cons v0 u0 vs0 us0 r0 rs0 =>
      cases hr with
      | cons q0 qs0 =>
        cases h1 with
        | cons k0 ks0 =>
          obtain ⟨vs', a1, a2, a3, a4⟩ := put_old e rv rd h.2 ks0 rs0 qs0
          by_cases hk : x.1 = k
          · have hk' : nkOf p.1 = nkOf i := by rw [h.1, hk, e]
            refine ⟨v :: vs', ?_, ?_, ?_, ?_⟩
            · simp only [List.map_cons, hk', if_true, putAt, hk]
              rw [a1, e]
            · simp only [List.map_cons, hk', if_true, putAt, hk]
              exact .cons k0 a2
            · simp only [List.map_cons, putAt, hk, if_true]
              exact .cons rv a3
            · simp only [List.map_cons, hk', if_true]
              exact .cons rd a4
          · have hk' : ¬ nkOf p.1 = nkOf i := by
              rw [h.1, e]
              exact fun z => hk (Option.some.inj z)
            refine ⟨v0 :: vs', ?_, ?_, ?_, ?_⟩
            · simp only [List.map_cons, hk', if_false, putAt, hk]
              rw [a1, h.1]
            · simp only [List.map_cons, hk', if_false, putAt, hk]
              exact .cons k0 a2
            · simp only [List.map_cons, putAt, hk, if_false]
              exact .cons r0 a3
            · simp only [List.map_cons, hk', if_false]
              exact .cons q0 a4
theorem dic_cell {v : V} {k : Nat} {kvs : List (D × D)} (ok : WOk K mg w) (r : Rp K mg w v (.cell k)) (h : w.ce[k]? = some (some (.dic kvs))) :
    ∃ a xs vs, v = .ref a ∧ w.al[k]? = some a ∧ w.H a = some (DicO mg.wo a xs) ∧ kvs.map (fun p => nkOf p.1) = xs.map (fun x => some x.1) ∧ (∀ x ∈ xs, x.1.depth ≤ 8 ∧ ∃ ks, x.1 = .tup ks) ∧
      Rps K mg w (xs.map fun x => V.ref x.2.1) (kvs.map (·.1)) ∧ Vals vs (xs.map (·.2.2)) ∧ Rps K mg w vs (kvs.map (·.2)) := by
  cases r with
  | cell ea =>
    obtain ⟨b, eb, rb⟩ := ok.at_ k _ h
    rw [ea] at eb
    cases eb
    cases rb with
    | dic h1 h2 h3 h4 h5 h6 => exact ⟨_, _, _, rfl, ea, h1, h2, h3, h4, h5, h6⟩
theorem keys_nk : ∀ {kvs : List (D × D)} {xs : List (NestedKey × Addr × Value)}, kvs.map (fun p => nkOf p.1) = xs.map (fun x => some x.1) → Rps K mg w (xs.map fun x => V.ref x.2.1) (kvs.map (·.1)) → ∀ x ∈ xs, Nk K w.H (.ref x.2.1) x.1
  | [], [], _, _, _, m => by simp at m
  | [], _ :: _, h, _, _, _ => by simp at h
  | _ :: _, [], h, _, _, _ => by simp at h
  | p :: kvs, x :: xs, h, r, y, m => by
    simp only [List.map_cons, List.cons.injEq] at h
    cases r with
    | cons r rs =>
      rcases List.mem_cons.mp m with z | m
      · subst z
        exact nk_of r h.1
      · exact keys_nk h.2 rs y m
/-- key in d, key not in d -/
def dInN (f : Bool → Bool) : A2 := fun d e κ R => match e with
  | .cell j => ∃ kvs ks, κ[j]? = some (some (.dic kvs)) ∧ nkOf d = some (.tup ks) ∧ (NestedKey.tup ks).depth ≤ 8 ∧ R (.bl (f (hasK kvs d))) κ
  | _ => False
theorem o2_inN {f : Bool → Bool} : Op2 K mg (rInN K mg.wo f) (dInN f) := by
  intro w x y d e R Q ok rx ry h k
  unfold dInN at h
  split at h
  · obtain ⟨kvs, ks, q, hd, hdp, h⟩ := h
    obtain ⟨a, xs, vs, rfl, ea, ha, h2, h3, h4, h5, h6⟩ := dic_cell ok ry q
    have nk := nk_of rx hd
    obtain ⟨b, rfl⟩ : ∃ b, x = .ref b := by cases nk with | tup h _ => exact ⟨_, rfl⟩
    refine ⟨a, b, _, xs, rfl, rfl, ha, nk, hdp, fun z hz => ⟨keys_nk h2 h4 z hz, (h3 z hz).1⟩, ?_⟩
    rw [has_at h2 hd]
    exact k _ w _ h (.refl ok) (.bl _)
  · exact h.elim
end
def aDicNew : AE := fun _ κ R => R (.cell κ.length) (κ ++ [some (.dic [])])
section
variable {Θ : TbL} {X : Cx} {o i : Expr} {t u : AE} {pos : Pos} {k : Nat}
theorem q_dic : QE Θ X (.Dict [] [] pos) aDicNew := pe_dicNew.imp (by
  rintro σ H Q ⟨w, ρ, R, rfl, ok, st, h, kk⟩
  intro p hp
  have hh : (w.hide p (DicO X.w p [])).hid = (p, DicO X.w p []) :: w.hid := rfl
  have ok1 := ok_hide ok hp (o := DicO X.w p []) dic_mut
  have t1 : To X.K (X.mgx Θ) w ((w.hide p (DicO X.w p [])).toCell w.hid p (.dic [])) := ⟨(gr_hide hp).trans (gr_toCell ok1 hh), rfl, ok_toCell ok1 hh (.dic (xs := []) (vs := []) upd_same rfl (fun _ m => nomatch m) .nil .nil .nil)⟩
  refine kk (.cell w.ce.length) ((w.hide p (DicO X.w p [])).toCell w.hid p (.dic [])) (.ref p) h t1 ?_
  rw [← ok.len]
  exact rp_toCell (w := w.hide p (DicO X.w p [])))
/-- o[i] as a target, o such a dict -/
def rSetN (K : Frag) (wo : World) : V → V → V → Hp → (Hp → Prop) → Prop := fun o i v H Q => ∃ (a b : Addr) (k : NestedKey) (xs : List (NestedKey × Addr × Value)), o = .ref a ∧ i = .ref b ∧ H a = some (DicO wo a xs) ∧ Nk K H (.ref b) k ∧ k.depth ≤ 8 ∧ (∀ x ∈ xs, Nk K H (.ref x.2.1) x.1 ∧ x.1.depth ≤ 8) ∧ xs.length ≤ 1000000 ∧
  ∀ u, L2.RelV v u → Q (upd H a (DicO wo a (storedH xs k b u)))
theorem set_dicN (hu : X.A.units + 64 < cLine) : PSet X (rSetN X.K X.w) := by
  intro pins s σ H o i v ov iv u Q I ro ri rv h
  obtain ⟨a, b, k, xs, rfl, rfl, ha, hk, hd, hx, hz, q⟩ := h
  cases ro
  cases ri
  obtain ⟨h1, m⟩ := dic_at I ha hx
  refine wpAny_setItem_heap (knd := nestedKind X.prog X.w) (by show X.A.units + 1 + 8 < cLine; omega) ⟨Nk.is I hk rfl, hd⟩ m (fun h' m' sb => ?_) (by rw [sizeLine_eq]; omega)
  have he : ∃ z, h'.get? a = some z := by
    obtain ⟨z, _, _, ez, _⟩ := m'
    exact ⟨z, ez⟩
  exact ⟨_, I.write (e := a) (by rw [ha]; trivial) (.inl rfl) (fun c z hc hz => (sb.2 c hc).trans hz) he (dic_ok h1 m'), q u rv⟩
/-- o[i] as a target, o a dict with tuple keys -/
def aSubD (t u : AE) : AG := fun d ρ κ R => t ρ κ fun o κ1 => u ρ κ1 fun i κ2 => match o with
  | .cell k => ∃ kvs ks, κ2[k]? = some (some (.dic kvs)) ∧ nkOf i = some (.tup ks) ∧ (NestedKey.tup ks).depth ≤ 8 ∧ kvs.length ≤ 1000000 ∧ R ρ (κ2.set k (some (.dic (putDic kvs i d))))
  | _ => False
theorem dic_put {K : Frag} {mg : MG} {w : Wd} {a b : Addr} {k : Nat} {kvs : List (D × D)} {xs : List (NestedKey × Addr × Value)} {vs : List V} {i d : D} {v : V} {u : Value} {nk : NestedKey} (ok : WOk K mg w) (q : w.ce[k]? = some (some (.dic kvs))) (ea : w.al[k]? = some a)
    (h2 : kvs.map (fun p => nkOf p.1) = xs.map (fun x => some x.1)) (h3 : ∀ x ∈ xs, x.1.depth ≤ 8 ∧ ∃ ks, x.1 = .tup ks) (h4 : Rps K mg w (xs.map fun x => V.ref x.2.1) (kvs.map (·.1))) (h5 : Vals vs (xs.map (·.2.2))) (h6 : Rps K mg w vs (kvs.map (·.2)))
    (e : nkOf i = some nk) (hnk : nk.depth ≤ 8 ∧ ∃ ks, nk = .tup ks) (ri : Rp K mg w (.ref b) i) (rv : L2.RelV v u) (rd : Rp K mg w v d) :
    To K mg w (w.write k (.dic (putDic kvs i d)) a (DicO mg.wo a (storedH xs nk b u))) := by
  have g := gr_write (c' := .dic (putDic kvs i d)) (o := DicO mg.wo a (storedH xs nk b u)) ok q ea
  refine ⟨g, rfl, ok_write ok q ea ?_⟩
  have hh := has_at h2 e
  unfold putDic storedH
  rw [hh]
  by_cases hk : hasK kvs i = true
  · rw [if_pos hk, if_pos hk]
    obtain ⟨vs', a1, a2, a3, a4⟩ := put_old e rv rd h2 h4 h5 h6
    refine .dic upd_same a1 (fun x hx => ?_) (a2.mono (by
      have g' := g
      unfold putDic storedH at g'
      rw [hh, if_pos hk, if_pos hk] at g'
      exact g')) a3 (a4.mono (by
      have g' := g
      unfold putDic storedH at g'
      rw [hh, if_pos hk, if_pos hk] at g'
      exact g'))
    obtain ⟨y, hy, rfl⟩ := List.mem_map.mp hx
    unfold putAt
    split
    · exact h3 y hy
    · exact h3 y hy
  · rw [if_neg hk, if_neg hk]
    have g' := g
    unfold putDic storedH at g'
    rw [hh, if_neg hk, if_neg hk] at g'
    refine .dic (vs := vs ++ [v]) upd_same (by rw [List.map_append, List.map_append, h2]; simp [e]) (fun x hx => ?_) ?_ ?_ ?_
    · rcases List.mem_append.mp hx with hx | hx
      · exact h3 x hx
      · rw [List.mem_singleton.mp hx]
        exact hnk
    · rw [List.map_append, List.map_append]
      exact ((h4.append (.cons ri .nil))).mono g'
    · rw [List.map_append]
      exact h5.append (.cons rv .nil)
    · rw [List.map_append]
      exact (h6.append (.cons rd .nil)).mono g'
theorem qg_subD (hr : Room k X.A) (ho : QE Θ X o t) (hi : QE Θ X i u)
    (ha : ∀ v, assign (.Subscript o i pos) X.env v = (do let ov ← holding [v] (eval o X.env); let iv ← holding [v, ov] (eval i X.env); standAt pos; holding [v, ov, iv] (setItem ov iv v); release [v, ov, iv] []) := by intro _; rfl) : QG Θ X (.Subscript o i pos) (aSubD t u) [] := by
  refine ⟨_, pg_sub ho hi (set_dicN hr.units) ha, ?_⟩
  intro w v d ρ σ R Q ok st r h kk
  refine ⟨w, ρ, _, rfl, ok, st, h, fun o w1 v1 h1 t1 r1 => ?_⟩
  refine ⟨w1, ρ, _, rfl, t1.ok, st.mono t1.gr, h1, fun i w2 v2 h2 t2 r2 => ?_⟩
  split at h2
  · obtain ⟨kvs, ks, q, e, hdp, hz, h2⟩ := h2
    obtain ⟨a, xs, vs, rfl, ea, ha, g2, g3, g4, g5, g6⟩ := dic_cell t2.ok (r1.mono t2.gr) q
    have nk := nk_of r2 e
    obtain ⟨b, rfl⟩ : ∃ b, v2 = .ref b := by cases nk with | tup h _ => exact ⟨_, rfl⟩
    have tt := t1.trans t2
    have hl : xs.length ≤ 1000000 := by
      have := congrArg List.length g2
      rw [List.length_map, List.length_map] at this
      omega
    refine ⟨a, b, _, xs, rfl, rfl, ha, nk, hdp, fun z hz => ⟨keys_nk g2 g4 z hz, (g3 z hz).1⟩, hl, fun uu ru => ?_⟩
    have t3 := dic_put t2.ok q ea g2 g3 g4 g5 g6 e ⟨hdp, ks, rfl⟩ r2 ru (r.mono tt.gr)
    exact kk ρ σ _ h2 (tt.trans t3) (st.mono (tt.trans t3).gr) ⟨rfl, fun _ _ => rfl⟩
  · exact h2.elim
variable {a b : Expr}
theorem q_inN (hr : Room k X.A) (ha : QE Θ X a t) (hb : QE Θ X b u) (hm : behindInMarks .In b = false := by rfl) : QE Θ X (.Compare a [.In] [b] pos) (aOp (dInN id) t u) := q_cmpR (or_inN hr.units) o2_inN ha hb hm
theorem q_notInN (hr : Room k X.A) (ha : QE Θ X a t) (hb : QE Θ X b u) (hm : behindInMarks .NotIn b = false := by rfl) : QE Θ X (.Compare a [.NotIn] [b] pos) (aOp (dInN not) t u) := q_cmpR (or_notInN hr.units) o2_inN ha hb hm
theorem qt_inN (hr : Room k X.A) (ha : QE Θ X a t) (hb : QE Θ X b u) (hm : behindInMarks .In b = false := by rfl) : QT Θ X (.Compare a [.In] [b] pos) (aTest (aOp (dInN id) t u)) := qt_cmpR (or_inN hr.units) o2_inN ha hb hm
theorem qt_notInN (hr : Room k X.A) (ha : QE Θ X a t) (hb : QE Θ X b u) (hm : behindInMarks .NotIn b = false := by rfl) : QT Θ X (.Compare a [.NotIn] [b] pos) (aTest (aOp (dInN not) t u)) := qt_cmpR (or_notInN hr.units) o2_inN ha hb hm
end
end PD
set_option Elab.async false
set_option linter.all false
set_option autoImplicit false
set_option maxRecDepth 100000
set_option maxHeartbeats 4000000
/-! PD, part 19: sorted(xs, reverse=True) of ints; x in list. -/
namespace PD
open PySem PySem.Spec PyProof.Rows L2
section
variable {Θ : TbL} {X : Cx} {e a b : Expr} {t u : AE} {pos p kpos p2 : Pos} {k : Nat} {kd : Nat}
/-- whatever list of the same numbers, falling -/
def aSortR (t : AE) : AE := fun ρ κ R => t ρ κ fun d κ1 => ∃ ns : List Int, seqOf κ1 d = some (ns.map D.int) ∧ ∀ ns' : List Int, ns'.Perm ns → OrdB true ns' → R (.lst (ns'.map D.int)) κ1
theorem q_sortR (hm : X.mg "sorted" = none) (he : QE Θ X e t) (hg : Gl X "sorted" := by rfl) (hst0 : starEach [e] X.env = (false, eval e X.env) :: starEach [] X.env := by rfl)
    (hst : backTo pos (starEach [e] X.env) = (false, eval e X.env) :: backTo pos (starEach [] X.env) := by rfl) (hpl : (backTo pos (starEach [e] X.env)).any (·.1) = false := by rfl) :
    QE Θ X (.Call (.Name "sorted" p) [e] [⟨some "reverse", .Constant (.bool true) kd p2, kpos⟩] pos) (aSortR t) :=
  (pe_callBK (kws := [⟨some "reverse", .Constant (.bool true) kd p2, kpos⟩]) (cr_sortedRev (b := true)) hg hm boot_sorted (pa_cons he pa_nil hst0) (pk_cons pe_bl pk_nil) (by decide) (by decide) hst hpl rfl rfl rfl).imp (by
  rintro σ H Q ⟨w, ρ, R, rfl, ok, st, h, kk⟩
  refine ⟨w, ρ, _, rfl, ok, st, h, fun d w1 v1 h1 t1 r1 => ?_⟩
  obtain ⟨ns, e1, h1⟩ := h1
  obtain ⟨a, xs, rfl, hs, rs⟩ := seqOf_at t1.ok r1 e1
  have ex := rs.ints_inv
  subst ex
  refine ⟨a, ns, rfl, rfl, hs, fun ns' p hp ho hn => ?_⟩
  obtain ⟨t2, r2⟩ := lst_new t1.ok hn (Rps.ints ns')
  exact kk _ (w1.put p _) _ (h1 ns' hp ho) (t1.trans t2) r2)
theorem pys_any (d : D) : ∀ ds : List D, (pysOf ds).any (fun z => PyData.eqv z (pyOf d)) = ds.any fun z => eqD z d
  | [] => rfl
  | x :: ds => by rw [pysOf, List.any_cons, List.any_cons, pys_any d ds]; rfl
/-- x in l, x not in l, a list of plain data -/
def dInL (f : Bool → Bool) : A2 := fun d e κ R => ∃ ds, view κ e = .lst ds ∧ okD (view κ d) ∧ okD (.lst ds) ∧ R (.bl (f (ds.any fun z => eqD z (view κ d)))) κ
theorem o2_inL {K : Frag} {mg : MG} : Op2 K mg (rInD K) (dInL id) := by
  intro w x y d e R Q ok rx ry h k
  obtain ⟨ds, ev, h1, h2, h⟩ := h
  have dy := dp_view ok ry (by rw [ev]; exact h2.1)
  rw [ev] at dy
  refine ⟨_, _, dp_view ok rx h1.1, dy, shaped_of h1.1 h1.2, shaped_of (d := .lst ds) h2.1 h2.2, ?_⟩
  rw [pys_any]
  exact k _ w _ h (.refl ok) (.bl _)
theorem o2_notInL {K : Frag} {mg : MG} : Op2 K mg (rNotInD K) (dInL not) := by
  intro w x y d e R Q ok rx ry h k
  obtain ⟨ds, ev, h1, h2, h⟩ := h
  have dy := dp_view ok ry (by rw [ev]; exact h2.1)
  rw [ev] at dy
  refine ⟨_, _, dp_view ok rx h1.1, dy, shaped_of h1.1 h1.2, shaped_of (d := .lst ds) h2.1 h2.2, ?_⟩
  rw [pys_any]
  exact k _ w _ h (.refl ok) (.bl _)
theorem un65 (hr : Room k X.A) : X.A.units + 65 < cLine := by have := hr.un; omega
theorem q_inL (hr : Room k X.A) (ha : QE Θ X a t) (hb : QE Θ X b u) (hm : behindInMarks .In b = false := by rfl) : QE Θ X (.Compare a [.In] [b] pos) (aOp (dInL id) t u) := q_cmpR (op_inD (un65 hr)) o2_inL ha hb hm
theorem q_notInL (hr : Room k X.A) (ha : QE Θ X a t) (hb : QE Θ X b u) (hm : behindInMarks .NotIn b = false := by rfl) : QE Θ X (.Compare a [.NotIn] [b] pos) (aOp (dInL not) t u) := q_cmpR (op_notInD (un65 hr)) o2_notInL ha hb hm
theorem qt_inL (hr : Room k X.A) (ha : QE Θ X a t) (hb : QE Θ X b u) (hm : behindInMarks .In b = false := by rfl) : QT Θ X (.Compare a [.In] [b] pos) (aTest (aOp (dInL id) t u)) := qt_cmpR (op_inD (un65 hr)) o2_inL ha hb hm
theorem qt_notInL (hr : Room k X.A) (ha : QE Θ X a t) (hb : QE Θ X b u) (hm : behindInMarks .NotIn b = false := by rfl) : QT Θ X (.Compare a [.NotIn] [b] pos) (aTest (aOp (dInL not) t u)) := qt_cmpR (op_notInD (un65 hr)) o2_notInL ha hb hm
end
end PD
set_option Elab.async false
set_option linter.all false
set_option autoImplicit false
set_option maxRecDepth 100000
set_option maxHeartbeats 4000000
/-! PD, part 20: zip over lists and tuples in any mixture. -/
namespace PD
open PySem PySem.Spec PyProof.Rows L2
/-- a tuple (true), a list (false) -/
def Sq (t : Bool) (K : Frag) (H : Hp) (a : Addr) (xs : List V) : Prop := match t with
  | true => SqT K H a xs
  | false => SqL K H a xs
def ItrAt (t : Bool) (h : Heap) (it l : Addr) (i : Nat) : Prop := match t with
  | true => h.IsTupleIter it l i
  | false => h.IsListIter it l i
def SeqAtH (t : Bool) (h : Heap) (l : Addr) (vs : Array Value) : Prop := match t with
  | true => h.IsTuple l vs
  | false => h.IsList l vs
def itrObj (t : Bool) (l : Addr) : Obj := match t with
  | true => { cls := .type "tuple_iterator", data := .fields #[.ref l, .int 0 0] }
  | false => { cls := .type "list_iterator", data := .fields #[.ref l, .int 0 0] }
theorem ItrAt.keep {t : Bool} {h h' : Heap} {it l : Addr} {i : Nat} (x : ItrAt t h it l i) (k : ∀ o, h.get? it = some o → h'.get? it = some o) : ItrAt t h' it l i := by
  cases t
  · exact Heap.IsListIter.at x k
  · exact Heap.IsTupleIter.at x k
theorem ItrAt.obj {t : Bool} {h : Heap} {it l : Addr} {i : Nat} (x : ItrAt t h it l i) : ∃ o, h.get? it = some o ∧ ∀ v, o.data ≠ .cell v := by
  cases t
  · obtain ⟨o, e, _, d⟩ := (x : h.IsListIter it l i)
    exact ⟨o, e, fun v q => by rw [d] at q; cases q⟩
  · obtain ⟨o, e, _, d⟩ := (x : h.IsTupleIter it l i)
    exact ⟨o, e, fun v q => by rw [d] at q; cases q⟩
theorem SeqAtH.lt {t : Bool} {h : Heap} {l : Addr} {vs : Array Value} (x : SeqAtH t h l vs) : l < h.objs.size := by
  cases t
  · obtain ⟨o, e, _⟩ := (x : h.IsList l vs)
    exact Heap.lt_size e
  · obtain ⟨o, e, _⟩ := (x : h.IsTuple l vs)
    exact Heap.lt_size e
theorem draws_seq {prog : Program} {w : World} {A : Around} (hh : A.handled = none) (t : Bool) (it l : Addr) (hne : l ≠ it) (vs : Array Value) :
    Draws prog w A it [it, l] vs.size (fun i v => vs[i]? = some v) (fun i h => ItrAt t h it l i ∧ SeqAtH t h l vs) := by
  cases t
  · exact Draws.list hh it l hne vs
  · exact Draws.tuple hh it l hne vs
theorem begins_seq (t : Bool) (l : Addr) (vs : Array Value) : Begins (.ref l) (itrObj t l) fun h => SeqAtH t h l vs := by
  cases t
  · exact begins_list l vs
  · exact begins_tuple l vs
theorem itr_of {t : Bool} {h : Heap} {it l : Addr} (e : h.get? it = some (itrObj t l)) : ItrAt t h it l 0 := by
  cases t
  · exact ⟨_, e, rfl, rfl⟩
  · exact ⟨_, e, rfl, rfl⟩
section
variable {X : Cx} {pins : List (Addr × Obj)} {σ : L2.St} {H : Hp} {s : Shared}
theorem Sq.at_ {t : Bool} {a : Addr} {xs : List V} (I : Inv X pins σ H s) (h : Sq t X.K H a xs) : ∃ its : List Value, Vals xs its ∧ SeqAtH t s.heap a its.toArray := by
  cases t
  · obtain ⟨its, r, p, _⟩ := I.list (h : SqL X.K H a xs)
    exact ⟨its, r, p.isList⟩
  · obtain ⟨its, r, p, _⟩ := I.tuple (h : SqT X.K H a xs)
    exact ⟨its, r, p⟩
theorem Sq.inj {t : Bool} {a : Addr} {xs ys : List V} (I : Inv X pins σ H s) (h : Sq t X.K H a xs) (h' : Sq t X.K H a ys) : xs = ys := by
  cases t
  · exact I.list_inj h h'
  · exact I.tuple_inj h h'
end
def ItzM (t u : Bool) (K : Frag) (a b : Addr) : It :=
  ⟨fun i H => ∃ (xs ys : List V) (x y : V), Sq t K H a xs ∧ Sq u K H b ys ∧ xs[i]? = some x ∧ ys[i]? = some y,
    fun i H v H' => ∃ T x y, v = .ref T ∧ H T = none ∧ H' = upd H T (.tup [x, y]) ∧ (∀ xs, Sq t K H a xs → xs[i]? = some x) ∧ ∀ ys, Sq u K H b ys → ys[i]? = some y,
    fun i H => ∃ xs ys : List V, Sq t K H a xs ∧ Sq u K H b ys ∧ ((i = xs.length ∧ i ≤ ys.length) ∨ (i = ys.length ∧ i ≤ xs.length))⟩
theorem turn_zipM {P : Program} {w : World} {K : Frag} {t u : Bool} {elts : List Expr} {kk : Nat} {tpos : Pos} {a b z TI TO i1 i2 : Addr} (D : ZipSep2 z TI TO i1 i2 [i1, a] [i2, b]) (na : a ≠ i1) (nb : b ≠ i2) :
    Turn P w K (.Tuple elts kk tpos) (ItzM t u K a b) [z, TI, TO, i1, i2] z (fun i h => IsZip h z TI TO .none ∧ IsTupOf2 h TI (.ref i1) (.ref i2) ∧ (∃ x y, IsTupOf2 h TO x y) ∧ ItrAt t h i1 a i ∧ ItrAt u h i2 b i) where
  mem := by simp
  obj := fun i h st c hc => by
    obtain ⟨hz, hTI, ⟨x, y, hTO⟩, h1, h2⟩ := st
    have e' : c = z ∨ c = TI ∨ c = TO ∨ c = i1 ∨ c = i2 := by simpa using hc
    rcases e' with q | q | q | q | q <;> rw [q]
    · exact ⟨_, hz, fun v q => nomatch q⟩
    · exact ⟨_, hTI, fun v q => nomatch q⟩
    · exact ⟨_, hTO, fun v q => nomatch q⟩
    · exact h1.obj
    · exact h2.obj
  keep := fun i h h' st k => by
    obtain ⟨hz, hTI, ⟨x, y, hTO⟩, h1, h2⟩ := st
    exact ⟨k z (by simp) _ hz, k TI (by simp) _ hTI, ⟨x, y, k TO (by simp) _ hTO⟩, h1.keep fun o q => k i1 (by simp) o q, h2.keep fun o q => k i2 (by simp) o q⟩
  item := by
    intro X hP hw hK hc i pins s σ H E I hf st hg
    subst hP hw hK
    obtain ⟨hz, hTI, ⟨x0, y0, hTO⟩, h1, h2⟩ := st
    obtain ⟨xs, ys, x, y, hqx, hqy, hx, hy⟩ := hg
    obtain ⟨its, rv, p⟩ := hqx.at_ I
    obtain ⟨its2, rv2, p2⟩ := hqy.at_ I
    obtain ⟨v, hv, ru⟩ := rv.get hx
    obtain ⟨v2, hv2, ru2⟩ := rv2.get hy
    have l1 : i < its.toArray.size := by rw [List.size_toArray]; exact (List.getElem?_eq_some_iff.mp hv).1
    have l2 : i < its2.toArray.size := by rw [List.size_toArray]; exact (List.getElem?_eq_some_iff.mp hv2).1
    have hzl : z < s.heap.objs.size := Heap.lt_size hz
    have hh : X.A.in1.handled = none := I.ok.hd hc
    refine wpAny_pyNext_zipD2_item D (draws_seq hh t i1 a na its.toArray) (draws_seq hh u i2 b nb its2.toArray) hz hTI hTO ⟨h1, p⟩ ⟨h2, p2⟩ l1 l2 fun w1 w2 h' tk q1 q2 z' TO' h1' h2' hT hsz hk => ?_
    have e1 : w1 = v := by
      have q1' : its[i]? = some w1 := by simpa using q1
      rw [hv] at q1'
      exact (Option.some.inj q1').symm
    have e2 : w2 = v2 := by
      have q2' : its2[i]? = some w2 := by simpa using q2
      rw [hv2] at q2'
      exact (Option.some.inj q2').symm
    subst e1 e2
    refine ⟨_, rfl, wpAny_letOwnedTupleGo_zip (s := { s with heap := h', toks := tk }) z' fun h'' z'' sb => ?_⟩
    have hT2 : h''.get? s.heap.objs.size = some { cls := .type "tuple", data := .seq #[w1, w2] } := (sb.2 _ (Nat.ne_of_gt hzl)).trans hT
    have new : ObjOk X.prog X.w (upd H s.heap.objs.size (.tup [x, y])) h'' s.heap.objs.size (.tup [x, y]) :=
      ⟨by show 2 ≤ sizeLine; decide, [w1, w2], .cons ru (.cons ru2 .nil), ⟨_, hT2, rfl, _, rfl⟩⟩
    have I1 : Inv X pins σ (upd H s.heap.objs.size (.tup [x, y])) { s with heap := h'', toks := tk } :=
      I.turnedNew (t' := tk) (ch := [z, TI, TO, i1, i2]) (fun c o hb q => (sb.2 c (fun q' => hb (by simp [q']))).trans (hk c o (fun q' => hb (by simp [q'])) (fun q' => hb (by simp [q'])) (fun q' => hb (by simp [q'])) (fun q' => hb (by simp [q'])) q)) hf (Nat.le_refl _) new
    refine ⟨.ref s.heap.objs.size, _, I1, rfl, ⟨_, x, y, rfl, I.hok.fresh (Nat.le_refl _), rfl, fun l hl => by rw [hl.inj I hqx]; exact hx, fun l hl => by rw [hl.inj I hqy]; exact hy⟩, ⟨z'', ?_, ⟨w1, w2, ?_⟩, ?_, ?_⟩, fun c hcm => ?_⟩
    · exact (sb.2 _ D.TIz).trans (hk _ _ D.TIz D.TITO D.TIi1 D.TIi2 hTI)
    · exact (sb.2 _ D.TOz).trans TO'
    · exact h1'.1.keep fun o q => (sb.2 _ (fun e => D.zi1 e.symm)).trans q
    · exact h2'.1.keep fun o q => (sb.2 _ (fun e => D.zi2 e.symm)).trans q
    · have hlt : c < s.heap.objs.size := by
        have e' : c = z ∨ c = TI ∨ c = TO ∨ c = i1 ∨ c = i2 := by simpa using hcm
        rcases e' with q | q | q | q | q <;> rw [q]
        · exact hzl
        · exact Heap.lt_size hTI
        · exact Heap.lt_size hTO
        · obtain ⟨_, e1, _⟩ := h1.obj
          exact Heap.lt_size e1
        · obtain ⟨_, e2, _⟩ := h2.obj
          exact Heap.lt_size e2
      rw [upd_ne (Nat.ne_of_lt hlt)]
      exact (hf c hcm).1
  done := by
    intro X hP hw hK hc i pins s σ H E I hf st hg
    subst hP hw hK
    obtain ⟨hz, hTI, ⟨x0, y0, hTO⟩, h1, h2⟩ := st
    obtain ⟨xs, ys, hqx, hqy, hend⟩ := hg
    obtain ⟨its, rv, p⟩ := hqx.at_ I
    obtain ⟨its2, rv2, p2⟩ := hqy.at_ I
    have l1 : its.toArray.size = xs.length := by rw [List.size_toArray, rv.length]
    have l2 : its2.toArray.size = ys.length := by rw [List.size_toArray, rv2.length]
    have hh : X.A.in1.handled = none := I.ok.hd hc
    refine wpAny_pyNext_zipD2_end D (draws_seq hh t i1 a na its.toArray) (draws_seq hh u i2 b nb its2.toArray) hz hTI hTO ⟨h1, p⟩ ⟨h2, p2⟩ (by omega) (by omega) (by omega) fun h' tk hk => ⟨rfl, I.turnedL (t' := tk) (ch := [z, TI, TO, i1, i2]) (fun c o hb q =>
      hk c o (fun q' => hb (by simp [q'])) (fun q' => hb (by simp [q'])) (fun q' => hb (by simp [q'])) (fun q' => hb (by simp [q'])) q) hf⟩
  self := fun A i s Q E st h => wpAny_pyIter_zip st.1 h
def iZipM (K : Frag) (ta : TA) : TI := fun σ H R => ta σ H fun vs H1 => ∃ (t u : Bool) (a b : Addr) (xs ys : List V), vs = [.ref a, .ref b] ∧ Sq t K H1 a xs ∧ Sq u K H1 b ys ∧ R (ItzM t u K a b) H1
theorem zip_sep {n a b : Addr} (ha : a < n) (hb : b < n) : ZipSep2 (n + 4) (n + 2) (n + 3) n (n + 1) [n, a] [n + 1, b] := by
  have h1 : ∀ {i j : Nat}, i ≠ j → (n + i : Nat) ≠ n + j := fun h e => h (Nat.add_left_cancel e)
  have ha' : ∀ i : Nat, (n + i : Nat) ≠ a := fun i e => Nat.lt_irrefl _ (Nat.lt_of_lt_of_le ha (e ▸ Nat.le_add_right n i))
  have hb' : ∀ i : Nat, (n + i : Nat) ≠ b := fun i e => Nat.lt_irrefl _ (Nat.lt_of_lt_of_le hb (e ▸ Nat.le_add_right n i))
  have h0 : ∀ {i : Nat}, i ≠ 0 → (n + i : Nat) ≠ n := fun h e => h (Nat.add_left_cancel (e.trans (Nat.add_zero n).symm))
  refine ⟨h1 (by decide), h1 (by decide), h1 (by decide), h0 (by decide), by simp, ?_, ?_, h1 (by decide), by simp, ?_, ?_, ?_, ?_⟩
  · intro m
    rcases List.mem_cons.mp m with e | m
    · exact h0 (i := 4) (by decide) e
    · exact ha' 4 (List.mem_singleton.mp m)
  · intro m
    rcases List.mem_cons.mp m with e | m
    · exact h0 (i := 3) (by decide) e
    · exact ha' 3 (List.mem_singleton.mp m)
  · intro m
    rcases List.mem_cons.mp m with e | m
    · exact h1 (i := 4) (j := 1) (by decide) e
    · exact hb' 4 (List.mem_singleton.mp m)
  · intro m
    rcases List.mem_cons.mp m with e | m
    · exact h1 (i := 3) (j := 1) (by decide) e
    · exact hb' 3 (List.mem_singleton.mp m)
  · intro m
    rcases List.mem_cons.mp m with e | m
    · exact h0 (i := 1) (by decide) e.symm
    · exact hb' 0 (List.mem_singleton.mp m)
  · intro m
    rcases List.mem_cons.mp m with e | m
    · exact h0 (i := 1) (by decide) e
    · exact ha' 1 (List.mem_singleton.mp m)
theorem pi_zipM {X : Cx} {e e2 : Expr} {ta : TA} {p pos tpos : Pos} {elts : List Expr} {kk : Nat} (hg : Gl X "zip") (hm : X.mg "zip" = none) (ha : PA X [e, e2] ta)
    (hs : starEach [e, e2] X.env = (false, eval e X.env) :: starEach [e2] X.env := by rfl) (hpl : (backTo pos (starEach [e2] X.env)).any (·.1) = false := by rfl) :
    PI X (.Tuple elts kk tpos) (.Call (.Name "zip" p) [e, e2] [] pos) (iZipM X.K ta) := by
  refine ⟨fun pins s σ H R I h => ?_⟩
  refine Call_ (ld_blt I hg hm PyProof.Rows.boot_zip (PyProof.Rows.callWith_type1 (thn (ha.run pos pins s σ H _ I h) fun us s1 ⟨vs, H1, I1, r1, q1⟩ => ?_) hs hpl))
  obtain ⟨t, u, a, b, xs, ys, rfl, hqx, hqy, q⟩ := q1
  have eu : us = [.ref a, .ref b] := by
    cases r1 with
    | cons r rr =>
      cases rr with
      | cons r' rr =>
        cases rr
        cases r
        cases r'
        rfl
  subst eu
  obtain ⟨its, rv, p1⟩ := hqx.at_ I1
  obtain ⟨its2, rv2, p2⟩ := hqy.at_ I1
  have la := p1.lt
  have lb := p2.lt
  refine zip_begins2 (begins_seq t a its.toArray) (begins_seq u b its2.toArray) p1 p2 fun h' hz hTI hTO g1 g2 hsz hk => wpAny_pyIter_zip hz ?_
  have I2 : Inv X pins σ H1 { s1 with heap := h' } := I1.kept (t' := s1.toks) hk
  refine ⟨s1.heap.objs.size + 4, [s1.heap.objs.size + 4, s1.heap.objs.size + 2, s1.heap.objs.size + 3, s1.heap.objs.size, s1.heap.objs.size + 1], _, _, H1, rfl, I2,
    turn_zipM (t := t) (u := u) (a := a) (b := b) (zip_sep la lb) (fun e => Nat.lt_irrefl _ (e ▸ la)) (fun e => Nat.lt_irrefl _ (Nat.lt_succ_of_lt (e ▸ lb))), ⟨hz, hTI, ⟨_, _, hTO⟩, itr_of g1, itr_of g2⟩, fun c hcm => ?_, q⟩
  have e' : c = s1.heap.objs.size + 4 ∨ c = s1.heap.objs.size + 2 ∨ c = s1.heap.objs.size + 3 ∨ c = s1.heap.objs.size ∨ c = s1.heap.objs.size + 1 := by simpa using hcm
  have hle : s1.heap.objs.size ≤ c := by
    rcases e' with z | z | z | z | z <;> rw [z] <;> first | exact Nat.le_add_right _ _ | exact Nat.le_refl _
  exact I1.fpOk hle (I1.hok.fresh hle)
/-- what a list, a tuple or the script holds -/
def anyOf : D → Option (List D)
  | .lst ds => some ds
  | .scr ns => some (ns.map D.int)
  | .tup ds => some ds
  | _ => none
theorem stands_any {K : Frag} {mg : MG} {w : Wd} {v : V} {d : D} {ds : List D} (r : Rp K mg w v d) (h : anyOf d = some ds) : ∃ t a xs, v = .ref a ∧ Rps K mg w xs ds ∧ ∀ w', Gr w w' → Sq t K w'.H a xs := by
  cases d with
  | lst es =>
    obtain ⟨a, xs, e, rs, hs⟩ := stands r (show _ = some ds from h)
    exact ⟨false, a, xs, e, rs, hs⟩
  | scr ns =>
    obtain ⟨a, xs, e, rs, hs⟩ := stands r (show _ = some ds from h)
    exact ⟨false, a, xs, e, rs, hs⟩
  | tup es =>
    cases h
    obtain ⟨a, xs, e, ha, rs⟩ := rp_tup r
    exact ⟨true, a, xs, e, rs, fun w' g => g.sqT ha⟩
  | _ => cases h
theorem walks_zipM {K : Frag} {mg : MG} {w : Wd} {t u : Bool} {a b : Addr} {xs ys : List V} {ds es : List D} (r : Rps K mg w xs ds) (h : ∀ w', Gr w w' → Sq t K w'.H a xs) (r' : Rps K mg w ys es) (h' : ∀ w', Gr w w' → Sq u K w'.H b ys) : Walks K mg (ItzM t u K a b) w (zipD ds es) := fun w1 g ok =>
  ⟨⟨xs, ys, h w1 g, h' w1 g, by rw [r.length, r'.length, zipD_length]; omega⟩, fun i d e => by
    obtain ⟨d0, d1, e0, e1, rfl⟩ := zipD_get _ _ _ _ e
    obtain ⟨v, f1, r1⟩ := r.get e0
    obtain ⟨v2, f2, r2⟩ := r'.get e1
    refine ⟨⟨xs, ys, v, v2, h w1 g, h' w1 g, f1, f2⟩, fun x H' y => ?_⟩
    obtain ⟨T, z, z', rfl, hT, rfl, y, y'⟩ := y
    have q1 := y xs (h w1 g)
    rw [f1] at q1
    cases q1
    have q2 := y' ys (h' w1 g)
    rw [f2] at q2
    cases q2
    obtain ⟨t2, rr⟩ := tup_new (xs := [v, v2]) (ds := [d0, d1]) ok hT (.cons (r1.mono g) (.cons (r2.mono g) .nil))
    exact ⟨w1.put T (.tup [v, v2]), rfl, rfl, t2, rr⟩⟩
def aZipM (ta : AA) : AA := fun ρ κ R => ta ρ κ fun ds κ' => ∃ d e xs ys, ds = [d, e] ∧ anyOf d = some xs ∧ anyOf e = some ys ∧ R (zipD xs ys) κ'
theorem qi_zipM {Θ : TbL} {X : Cx} {e e2 : Expr} {ta : AA} {p pos tpos : Pos} {elts : List Expr} {kk : Nat} (hm : X.mg "zip" = none) (ha : QA Θ X [e, e2] ta) (hg : Gl X "zip" := by rfl) (hs : starEach [e, e2] X.env = (false, eval e X.env) :: starEach [e2] X.env := by rfl) (hpl : (backTo pos (starEach [e2] X.env)).any (·.1) = false := by rfl) :
    QI Θ X (.Tuple elts kk tpos) (.Call (.Name "zip" p) [e, e2] [] pos) (aZipM ta) := (pi_zipM hg hm ha hs hpl).imp (by
  rintro σ H R ⟨w, ρ, P, rfl, ok, st, h, k⟩
  refine ⟨w, ρ, _, rfl, ok, st, h, fun ds w1 vs h1 t1 r1 => ?_⟩
  obtain ⟨d, e, xs, ys, rfl, e1, e2, h1⟩ := h1
  obtain ⟨v, u, rfl, rv, ru⟩ := rps2 r1
  obtain ⟨t, a, us, rfl, ra, hs⟩ := stands_any rv e1
  obtain ⟨t', b, us', rfl, rb, hs'⟩ := stands_any ru e2
  exact ⟨t, t', a, b, us, us', rfl, hs w1 (.refl _), hs' w1 (.refl _), k _ w1 _ h1 t1 (walks_zipM ra hs rb hs')⟩)
end PD
set_option Elab.async false
set_option linter.all false
set_option autoImplicit false
set_option maxRecDepth 100000
set_option maxHeartbeats 4000000
/-! PD, part 21: xs.insert(i, e); x is True. -/
namespace PD
open PySem PySem.Spec PyProof.Rows L2
section
variable {Θ : TbL} {X : Cx} {o i e a b : Expr} {t s u : AE} {pos apos : Pos}
def aIns (t s u : AE) : AE := fun ρ κ R => t ρ κ fun d κ1 => match d with
  | .cell k => (∃ ds, κ1[k]? = some (some (.lst ds))) ∧ s ρ κ1 fun x κ2 => u ρ κ2 fun e κ3 => ∃ ds j, x = .int j ∧ 0 ≤ j ∧ j < 1000000000 ∧ κ3[k]? = some (some (.lst ds)) ∧ ds.length < 16777216 ∧ R .non (κ3.set k (some (.lst (ds.take j.toNat ++ [e] ++ ds.drop j.toNat))))
  | _ => False
abbrev rInsert : V → List V → Hp → VK → Prop := fun x vs H Q => ∃ (l : Addr) (xs : List V) (i : Int) (y : V), x = .ref l ∧ vs = [.int i, y] ∧ H l = some (.lst xs) ∧ xs.length < sizeLine ∧ 0 ≤ i ∧ i < 2 ^ 63 ∧
    Q .non (upd H l (.lst (xs.take i.toNat ++ [y] ++ xs.drop i.toNat)))
theorem lift_ins {K : Frag} {mg : MG} {σ : L2.St} {H : Hp} {Q : VK} (h : lE K mg (aIns t s u) σ H Q) : tBM K "list" rInsert (lE K mg t) (tCons (lE K mg s) (tCons (lE K mg u) tNil)) σ H Q := by
  obtain ⟨w, ρ, R, rfl, ok, st, h, k⟩ := h
  refine ⟨w, ρ, _, rfl, ok, st, h, fun d w1 v1 h1 t1 r1 => ?_⟩
  split at h1
  · rename_i j
    obtain ⟨⟨ds0, q0⟩, h1⟩ := h1
    obtain ⟨a, xs0, rfl, ea, ha, _⟩ := cell_at t1.ok r1 q0
    refine ⟨.inl ⟨rfl, _, .inl (.inl ha)⟩, w1, ρ, _, rfl, t1.ok, st.mono t1.gr, h1, fun x w2 v2 h2 t2 r2 => ?_⟩
    refine ⟨w2, ρ, _, rfl, t2.ok, st.mono (t1.trans t2).gr, h2, fun e w3 v3 h3 t3 r3 => ?_⟩
    obtain ⟨ds, i, rfl, hi0, hi1, q, hz, h3⟩ := h3
    obtain ⟨b, xs, eb, ea2, hb, rb⟩ := cell_at t3.ok (r1.mono (t2.trans t3).gr) q
    cases eb
    have ei := rp_int r2
    subst ei
    refine ⟨a, xs, i, v3, rfl, rfl, hb, by rw [rb.length, sizeLine_eq]; exact hz, hi0, by omega, ?_⟩
    have t4 := to_write t3.ok q ea2 (((rb.take i.toNat).append (.cons r3 .nil)).append (rb.drop i.toNat))
    exact k _ (w3.write j _ a _) _ h3 (((t1.trans t2).trans t3).trans t4) .non
  · exact h1.elim
theorem q_insert (ho : QE Θ X o t) (hi : QE Θ X i s) (he : QE Θ X e u) (hs : starEach (i :: [e]) X.env = (false, eval i X.env) :: starEach [e] X.env := by rfl) (hs2 : starEach (e :: []) X.env = (false, eval e X.env) :: starEach [] X.env := by rfl)
    (hbase : attributeBase o "insert" X.env (eval o X.env) = eval o X.env := by rfl)
    (hfew : ((backTo pos (starEach (i :: [e]) X.env)).all (fun x => !x.1) && (backToKw pos (keywordEach [] X.env)).all (fun x => x.1.isSome)
      && decide ((i :: [e]).length + ([] : List Keyword).length + (if ([] : List Keyword).isEmpty then 0 else 1) < 30)) = true := by rfl)
    (hline : (apos.endLine == pos.line) = true := by rfl) (hplain : (backTo pos (starEach [e] X.env)).any (·.1) = false := by rfl) :
    QE Θ X (.Call (.Attribute o "insert" apos) [i, e] [] pos) (aIns t s u) := (pe_bm PySem.F.plainAttrs_list PySem.F.slot_list_insert PySem.F.type_list_insert mt_insert ho (pa_cons hi (pa_cons he pa_nil hs2) hs) hbase hfew hline hs hplain).imp fun _ _ _ h => lift_ins h
/-- x is True, x is not True, x a truth value or None -/
def rIsB (f : Bool → Bool) : R2 := fun x y H Q => ∃ b, y = .bl b ∧ (x = .non ∨ ∃ c, x = .bl c) ∧ Q (.bl (f (decide (x = .bl b)))) H
theorem op_isB : OpR X (compareOp .Is) (rIsB id) := by
  intro pins s σ H x y v u Q I rx ry h
  obtain ⟨b, rfl, hx, q⟩ := h
  cases ry
  show wpAny _ _ ((isSame v (Value.bool b)) >>= fun z => pure (Value.bool z)) _ _ s
  rcases hx with rfl | ⟨c, rfl⟩
  · cases rx
    exact wpAny_bind (wpAny_isSame_plain rfl (wpAny_pure ⟨.bl (decide (V.non = V.bl b)), H, I, (by cases b <;> rfl), q⟩))
  · cases rx
    refine wpAny_bind (wpAny_isSame_plain rfl (wpAny_pure ⟨.bl (decide (V.bl c = V.bl b)), H, I, ?_, q⟩))
    cases b <;> cases c <;> rfl
theorem op_isNotB : OpR X (compareOp .IsNot) (rIsB not) := by
  intro pins s σ H x y v u Q I rx ry h
  obtain ⟨b, rfl, hx, q⟩ := h
  cases ry
  show wpAny _ _ ((isSame v (Value.bool b)) >>= fun z => pure (Value.bool (!z))) _ _ s
  rcases hx with rfl | ⟨c, rfl⟩
  · cases rx
    exact wpAny_bind (wpAny_isSame_plain rfl (wpAny_pure ⟨.bl (!decide (V.non = V.bl b)), H, I, (by cases b <;> rfl), q⟩))
  · cases rx
    refine wpAny_bind (wpAny_isSame_plain rfl (wpAny_pure ⟨.bl (!decide (V.bl c = V.bl b)), H, I, ?_, q⟩))
    cases b <;> cases c <;> rfl
def dIsB (f : Bool → Bool) : A2 := fun d e κ R => match d, e with
  | .non, .bl _ => R (.bl (f false)) κ
  | .bl c, .bl b => R (.bl (f (decide (c = b)))) κ
  | _, _ => False
theorem o2_isB {K : Frag} {mg : MG} {f : Bool → Bool} : Op2 K mg (rIsB f) (dIsB f) := by
  intro w x y d e R Q ok rx ry h k
  unfold dIsB at h
  split at h
  · cases rx
    cases ry
    exact ⟨_, rfl, .inl rfl, k _ w _ h (.refl ok) (.bl _)⟩
  · cases rx
    cases ry
    refine ⟨_, rfl, .inr ⟨_, rfl⟩, ?_⟩
    rw [dec_bl, Bool.beq_eq_decide_eq]
    exact k _ w _ h (.refl ok) (.bl _)
  · exact h.elim
theorem q_isB (ha : QE Θ X a t) (hb : QE Θ X b u) : QE Θ X (.Compare a [.Is] [b] pos) (aOp (dIsB id) t u) := q_cmpR op_isB o2_isB ha hb (nomark _)
theorem q_isNotB (ha : QE Θ X a t) (hb : QE Θ X b u) : QE Θ X (.Compare a [.IsNot] [b] pos) (aOp (dIsB not) t u) := q_cmpR op_isNotB o2_isB ha hb (nomark _)
theorem qt_isB (ha : QE Θ X a t) (hb : QE Θ X b u) : QT Θ X (.Compare a [.Is] [b] pos) (aTest (aOp (dIsB id) t u)) := qt_cmpR op_isB o2_isB ha hb (nomark _)
theorem qt_isNotB (ha : QE Θ X a t) (hb : QE Θ X b u) : QT Θ X (.Compare a [.IsNot] [b] pos) (aTest (aOp (dIsB not) t u)) := qt_cmpR op_isNotB o2_isB ha hb (nomark _)
end
end PD
set_option Elab.async false
set_option linter.all false
set_option autoImplicit false
set_option maxRecDepth 100000
set_option maxHeartbeats 4000000
/-! PD, part 22: list.sort(key=f) of a list that is new ; sorted of a range. -/
namespace PD
open PySem PySem.W PySem.Calls PyProof.Rows
section
variable {prog : Program} {w : World} {A : Around} {E : Value → Shared → Prop} {s : Shared} {a kS : Addr} {b : Bool} {vs : List Value} {e0 : Nat} {P : PySem.Fin → Shared → Prop} {kz : List PyData} {g : Heap}
/-- list.sort(key=f) of a list that did not stand in g -/
theorem treeR {f : Value} (kp : Keep g s.heap) (fresh : g.get? a = none) (hg : g.objs.size ≤ a) (ho : s.heap.get? a = some (seqObj "list" vs.toArray e0)) (hlen : kz.length = vs.length) (hZ : vs.length ≤ sizeLine) (hal : AllAlike kz) (hsk : Sortable kz) (hu : ∀ d, d ∈ kz → A.units + d.depth < cLine)
    (turn : ∀ (i : Nat) (v : Value) (k : PyData), vs[i]? = some v → kz[i]? = some k → ∀ (h : Heap) (tk : Nat), Keep g h →
      wpAny (model prog w) A (call f [v]) (KeyRg g k { s with heap := h, toks := tk }) (fun _ _ => False) { s with heap := h, toks := tk })
    (h : ∀ h' tk out c, Keep g h' → h'.get? a = some (seqObj "list" (List.toArray out) c) → KeyedOut b kz vs out → P (.done (.ret .none)) { s with heap := h', toks := tk }) :
    wpAny (model prog w) A (ksk_tree a f b) P E s := by
  obtain ⟨hc, gens, dr, tk0, os⟩ := s
  have hc1 : a < hc.objs.size := Heap.lt_size ho
  obtain ⟨c1, ho1⟩ : ∃ c1, (hc.update a (Obj.mapSeq fun _ => (#[] : Array Value))).get? a = some (seqObj "list" #[] c1) := ⟨_, get?_update_seq ho fun _ => #[]⟩
  have hsz : ((hc.update a (Obj.mapSeq fun _ => (#[] : Array Value))).push (seqObj "tuple" vs.toArray 0)).objs.size = hc.objs.size + 1 := by rw [size_push', Heap.size_update]
  unfold ksk_tree
  refine wpAny_bind (listItems_at ho rfl ?_)
  refine wpAny_bind (listUpdate_at ho rfl ?_ (by rw [List.size_toArray]; exact hZ) (Nat.zero_le _))
  refine wpAny_bind (seqEpoch_at ho1 rfl ?_)
  refine wpAny_bind (wpAny_newTuple ?_ (by show vs.length ≤ _; exact hZ))
  refine wpAny_bind (wpAny_newList ?_ (Nat.zero_le _))
  refine wpAny_holding ?_
  have hle : g.objs.size ≤ hc.objs.size + 1 := Nat.le_trans hg (Nat.le_of_lt (Nat.lt_succ_of_lt hc1))
  refine keyR_rest (kz := kz) (g := g) (s := ⟨((hc.update a (Obj.mapSeq fun _ => (#[] : Array Value))).push (seqObj "tuple" vs.toArray 0)).push (seqObj "list" #[] 0), gens, dr, tk0, os⟩)
    (kS := ((hc.update a (Obj.mapSeq fun _ => (#[] : Array Value))).push (seqObj "tuple" vs.toArray 0)).objs.size) (a := a) ?_ (Heap.get?_none_of_le (by rw [hsz]; exact hle)) fresh (Heap.get?_push_size _ rfl) (Heap.get?_push_of_some _ (Heap.get?_push_of_some _ ho1))
    (fun z => by
      rw [hsz] at z
      have z2 : hc.objs.size + 1 < hc.objs.size := by rw [z]; exact hc1
      exact Nat.lt_irrefl _ (Nat.lt_trans (Nat.lt_succ_self _) z2)) hlen hZ hal hsk hu turn h
  intro b o e
  refine Heap.get?_push_of_some _ (Heap.get?_push_of_some _ ?_)
  rw [Heap.get?_update_ne _ _ _ _ (fun z => by rw [z, fresh] at e; cases e)]
  exact kp b o e
/-- sorted(range, key=f) -/
theorem sortedRng {r : Addr} {x y z : Int} {t u v : Tok} {n : Nat} {f : Value} {kw : List (Str × Value)} {Q : Value → Shared → Prop} (hh : A.in1.handled = none) (hr : IsRange s.heap r x y z t u v) (hsmall : Builtin.Range.small x y z = true) (hn : Builtin.Range.rangeSize x y z = n) (hlen : n ≤ 1000)
    (hkz : kz.length = n) (hal : AllAlike kz) (hsk : Sortable kz) (hu : ∀ d, d ∈ kz → A.in1.in1.units + d.depth < cLine) (ha1 : argsOk "sorted" ⟨[.ref r], kw⟩) (ha2 : ∀ x, argsOk "list.sort" ⟨[.ref x], kw⟩) (ht : ∀ x, Builtin.«list.sort» ⟨[.ref x], kw⟩ = ksk_tree x f b)
    (turn : ∀ h1 : Heap, Keep s.heap h1 → ∀ (i : Nat) (vv : Value) (k : PyData), (∃ tk, vv = .int (x + i * z) tk) → kz[i]? = some k → ∀ (h : Heap) (tk : Nat), Keep h1 h →
      wpAny (model prog w) A.in1.in1 (call f [vv]) (KeyRg h1 k { s with heap := h, toks := tk }) (fun _ _ => False) { s with heap := h, toks := tk })
    (h : ∀ (h1 : Heap) (acc : Array Value) out c h' tk, Keep s.heap h1 → ItemsOf (fun i v => ∃ t, v = .int (x + i * z) t) acc n → Keep h1 h' → h'.get? h1.objs.size = some (seqObj "list" (List.toArray out) c) → KeyedOut b kz acc.toList out → Q (.ref h1.objs.size) { s with heap := h', toks := tk }) :
    wpAny (model prog w) A (call (.builtin "sorted") [.ref r] kw) Q E s := by
  refine call_function_entry_kw kind_sorted plain_sorted entry_sorted ha1 ?_
  unfold Builtin.«sorted»
  refine wpAny_bind (m := checkCount "sorted" 1 1 _) (wpAny_pure ?_)
  refine wpAny_bind (L2.collect_range hh hr hsmall hn (by omega) fun h1 tk1 acc hk hi => ?_)
  have hz : acc.toList.length = n := by rw [Array.length_toList]; exact hi.1
  have hz2 : acc.toList.length ≤ sizeLine := by rw [hz, sizeLine_eq]; omega
  refine wpAny_bind (wpAny_newList ?_ hz2)
  refine wpAny_bind (wpAny_holding (wpAny_call_entry_kw slot_list_sort ⟨_, Heap.get?_push_size _ rfl, rfl⟩ entry_list_sort ?body (ha2 _)))
  case body =>
    show wpAny (model prog w) A.in1.in1 (Builtin.«list.sort» ⟨[.ref h1.objs.size], kw⟩) _ _ _
    rw [ht]
    refine wpAny_mono (treeR (kz := kz) (vs := acc.toList) (g := h1) (P := fun f s' => f = .done (.ret .none) ∧ Q (.ref h1.objs.size) s') (fun b o e => Heap.get?_push_of_some _ e) (Heap.get?_none_of_le (Nat.le_refl _)) (Nat.le_refl _) (Heap.get?_push_size _ rfl) (by rw [hkz, hz]) hz2 hal hsk hu
      (fun i vv k hv hkk hh tk kp => turn h1 hk i vv k (hi.2 i vv (by simpa using hv)) hkk hh tk kp) fun h' tk out c kg hD ko => ⟨rfl, h h1 acc out c h' tk hk hi kg hD ko⟩) (fun f s' hf => ?_) fun _ _ e => e
    obtain ⟨rfl, hq⟩ := hf
    exact ⟨_, rfl, wpAny_pure ⟨_, rfl, hq⟩⟩
end
end PD
set_option Elab.async false
set_option linter.all false
set_option autoImplicit false
set_option maxRecDepth 100000
set_option maxHeartbeats 4000000
/-! PD, part 23: sorted(range(n), key=lambda x: body) as a rule of the layer. -/
namespace PD
open PySem PySem.Spec PyProof.Rows L2
def wantKR (K : Frag) (T : List (Addr × Str)) (j : Nat) (fk : PRho → Option PyData) (σ : L2.St) (Q : VK) (x : V) (H1 : Hp) : Prop := LamX.Tabs T H1 ∧ ∃ (a : Addr) (n : Nat) (ks : List PyData) (ρ : PRho), x = .ref a ∧ H1 a = some (.rng 0 n) ∧ n ≤ 1000 ∧ ks.length = n ∧ PySem.W.AllAlike ks ∧ PySem.W.Sortable ks ∧ (∀ d ∈ ks, d.depth ≤ 10) ∧
  (∀ (i : Nat) (d : PyData), ρ[i]? = some (some d) → ∃ v, σ[i]? = some (some v) ∧ Dp K H1 v d) ∧
  (∀ (i : Nat) (k : PyData), ks[i]? = some k → fk (ρ.set j (some (.int (i : Nat)))) = some k) ∧
  ∀ (H2 : Hp) (p : Addr), LamX.ExtN H1 H2 → LamX.Tabs T H2 → H2 p = none → Q (.ref p) (upd H2 p (.lst (((((List.range n).map fun i => V.int (i : Nat)).zip ks).mergeSort (PySem.W.dataLe false (·.2))).map (·.1))))
def tSortKR (K : Frag) (T : List (Addr × Str)) (j : Nat) (fk : PRho → Option PyData) (te : TE) : TE := fun σ H Q => te σ H fun x H1 => wantKR K T j fk σ Q x H1
theorem vals_range {n : Nat} {us : List Value} (h : ∀ (i : Nat) (hi : i < us.length), ∃ t, us[i] = .int (i : Nat) t) (hl : us.length = n) : Vals ((List.range n).map fun i => V.int (i : Nat)) us := by
  have key : ∀ (m : Nat) (us : List Value), us.length = m → ∀ lo : Nat, (∀ (i : Nat) (hi : i < us.length), ∃ t, us[i] = .int ((lo + i : Nat) : Int) t) → Vals ((List.range' lo m).map fun i => V.int (i : Nat)) us := by
    intro m
    induction m with
    | zero =>
      intro us hl lo _
      rw [List.eq_nil_of_length_eq_zero hl]
      exact .nil
    | succ m ih =>
      intro us hl lo hh
      cases us with
      | nil => simp at hl
      | cons u us =>
        rw [List.range'_succ]
        obtain ⟨t, e⟩ := hh 0 (by simp)
        refine .cons ⟨t, by simpa using e⟩ (ih us (by simpa using hl) (lo + 1) fun i hi => ?_)
        obtain ⟨t, e⟩ := hh (i + 1) (by simpa using hi)
        exact ⟨t, by rw [show lo + 1 + i = lo + (i + 1) by omega]; simpa using e⟩
  rw [List.range_eq_range']
  exact key n us hl 0 fun i hi => by simpa using h i hi
section
variable {X : Cx} {e body : Expr} {te : TE} {params : Arguments} {scope : Scope} {lpos kpos pos p : Pos} {c P : Addr} {T : List (Addr × Str)} {x : Str} {j k : Nat} {fk : PRho → Option PyData}
theorem pe_sortKR (hg : Gl X "sorted") (hm : X.mg "sorted" = none) (he : PE X e te) (TB : LamX.TabB X.base X.mg c P) (hcode : X.env.code = .ref c) (hmT : (P, X.env.qual ++ "<lambda>") ∈ T) (hu : ∀ p ∈ T, p.1 = P → p.2 = X.env.qual ++ "<lambda>")
    (hr : Room k X.A) (L : Lam1 X.env.scope scope x) (hdef : defaultsOf params X.env = ([], []))
    (hbind : ∀ (q : Str) (cl : List (Str × Addr)) (pm cv ctv v : Value), bindArgs (PySem.W.kla_fn "<lambda>" q params body scope cl pm cv ctv) ⟨[v], []⟩ = pure [(x, v)])
    (hnd : X.N.Nodup) (hN : X.N[j]? = some x) (hev : ∀ (q : Str) (L f : Addr) (cv : Value) (clo : List (Str × Addr)), EvK X.N (PySem.W.envX q scope L f cv clo) body fk)
    (hst0 : starEach [e] X.env = (false, eval e X.env) :: starEach [] X.env := by rfl) (hst : backTo pos (starEach [e] X.env) = (false, eval e X.env) :: backTo pos (starEach [] X.env) := by rfl) (hpl : (backTo pos (starEach [e] X.env)).any (·.1) = false := by rfl) :
    PE X (.Call (.Name "sorted" p) [e] [⟨some "key", .Lambda params body scope lpos, kpos⟩] pos) (tSortKR X.K T j fk te) := by
  refine ⟨fun pins s σ H Q I h => ?_⟩
  refine wpAny_Call_Name_kw (ld_blt I hg hm boot_sorted ?_ (by decide) (by decide))
  have hfree : ∀ y ∈ scope.names, y.2 = .free → ∃ c, X.env.cells.lookup y.1 = some c := fun y hy ey => by
    rcases L.free y hy ey with k | k
    · exact I.ok.has _ (.inl k)
    · exact I.ok.has _ (.inr k)
  refine PyProof.Rows.callWith_kw (thn ((pa_cons he pa_nil hst0).run pos pins s σ H (one1 (wantKR X.K T j fk σ Q)) I h) fun us s1 ⟨vs, H1, I1, r1, q1⟩ => ?_) hst hpl rfl rfl
  show wpAny _ _ (evalAll ((do let v ← eval (.Lambda params body scope lpos) X.env; standAt pos; pure v) :: [])) _ _ s1
  obtain ⟨x0, rfl, hT, a, n, ks, ρ, rfl, hs, hz, hlen, hal, hsk, hdp, hρ, hks, hQ⟩ := one1_inv q1
  obtain rfl := Vals.ref1 r1
  refine wpAny_evalAll_cons (wpAny_bind (LamX.lam_make2 I1 TB hcode hmT hu hT hdef hfree fun f c' pm ctv H2 s2 I2 eN T2 hf hfn hfr hco => wpAny_bind (wpAny_standAt (wpAny_pure ?_))))
  refine wpAny_evalAll_nil ?_
  show wpAny _ _ (call (.builtin "sorted") [.ref a] [(Str.ofString "key", .ref f)]) _ _ _
  have hs2 : H2 a = some (.rng 0 n) := eN _ _ hs (fun _ z => nomatch z)
  obtain ⟨t1, t2, t3, hrg⟩ := I2.hok a _ hs2
  refine sortedRng (kz := ks) (n := n) (b := false) hr.hd hrg ?_ ?_ hz hlen hal hsk ?_ (ksk_s1 _ _) (fun _ => ksk_l1 _ _) (fun y => ksk_t1 f y) ?_ ?_
  · exact small_one (by omega) (by omega) (by omega) (by omega)
  · rw [rangeSize_nat]; omega
  · intro d hd
    have := hdp d hd
    have := hr.un
    show X.A.units + 1 + 1 + d.depth < cLine
    omega
  · intro h1 k1 i v kk hv hk h tk kp0
    have kp : Keep s2.heap h := fun b o e => kp0 _ _ (k1 _ _ e)
    have I2 := I2.kept (t' := s2.toks) k1
    obtain ⟨⟨oc, vs, t, hoc, hdc, hvc⟩, _, _⟩ := I2.hok c' _ hco
    obtain ⟨tk1, rfl⟩ := hv
    have hfk := hks i kk hk
    refine lam_turn (ρ := ρ.set j (some (.int (i : Nat)))) (N := X.N) (s := { s2 with heap := h, toks := tk }) hr.depth (kp _ _ hf) L.co L.gen L.kind ⟨c', oc, vs, t, rfl, kp0 _ _ hoc, hdc, hvc⟩ (I2.nolimit.keeps kp0) (hbind _ _ _ _ _ _) L.own L.par (fun Lc => hev _ Lc f _ _) hfk fun h₁ hns kp1 => ?_
    intro m y dd e1 e2
    have all : Keep h1 h₁ := fun b o e => kp1 _ _ (kp0 _ _ e)
    by_cases hmj : j = m
    · subst hmj
      rw [hN] at e1
      cases e1
      have hj : j < ρ.length := by
        have := (List.getElem?_eq_some_iff.mp e2).1
        rwa [List.length_set] at this
      rw [List.getElem?_set_self hj] at e2
      cases e2
      refine ⟨fun q => ⟨.int (0 + (i : Int) * 1) tk1, _, hns, by simp [List.lookup], [], by simpa using Reads.int (i : Int) tk1, by simp⟩, fun q => ?_⟩
      have q' : scope.names.lookup x = some .free := q
      rw [L.par] at q'
      cases q'
    · rw [List.getElem?_set_ne hmj] at e2
      obtain ⟨vv, es, hdp2⟩ := hρ m dd e2
      refine ⟨fun q => ?_, fun q => ?_⟩
      · have q' : scope.names.lookup y = some .local := q
        have z := L.one y q'
        subst z
        exact absurd ((List.getElem?_inj (List.getElem?_eq_some_iff.mp hN).1 hnd).mp (hN.trans e1.symm)) hmj
      · have q' : scope.names.lookup y = some .free := q
        have hy : (y, NameKind.free) ∈ scope.names := PySem.mem_of_lookup q'
        have vis : Vis X.env.scope y := (L.free _ hy rfl).elim (fun k => .inr (.inl k)) (fun k => .inr (.inr k))
        obtain ⟨mm, _, hl2⟩ := I2.loc
        obtain ⟨u, ru, lk⟩ := hl2 m y vv e1 es vis
        obtain ⟨c2, h2⟩ := L2.mem_lookup (cloFrom_has (cells := X.env.cells) (acc := []) hy)
        have cm : X.env.cells.lookup y = some c2 := by
          rcases cloFrom_mem (PySem.mem_of_lookup h2) with hm | ⟨_, h3⟩
          · cases hm
          · obtain ⟨c1, hc⟩ := hfree _ hy rfl
            have hc : X.env.cells.lookup y = some c1 := hc
            rw [hc] at h3 ⊢
            rw [h3]
            rfl
        rcases lk with ⟨k', _⟩ | ⟨_, c3, e3, ⟨o, ho, hd⟩⟩
        · have k' : X.env.scope.names.lookup y = some .local := k'
          rcases L.free _ hy rfl with k2 | k2 <;> rw [show X.env.scope.names.lookup y = _ from k2] at k' <;> cases k'
        · rw [cm] at e3
          cases e3
          obtain ⟨as, r⟩ := Dp.reads I2 dd vv u (dp_ext eN hdp2) ru
          exact ⟨u, c2, h2, ⟨o, all _ _ ho, hd⟩, as, PyProof.Rows.Reads.keeps all r, reads_addr r⟩
  · intro h1 acc out cc h' tk k1 hi kp hD ko
    have I3 := I2.kept (t' := s2.toks) k1
    have la : acc.toList.length = n := by rw [Array.length_toList]; exact hi.1
    have rv : Vals ((List.range n).map fun i => V.int (i : Nat)) acc.toList := by
      refine vals_range (fun i hi' => ?_) la
      obtain ⟨t, e⟩ := hi.2 i acc.toList[i] (by
        rw [← Array.getElem?_toList]
        exact List.getElem?_eq_getElem hi')
      exact ⟨t, by rw [e]; simp⟩
    have hlen' : ks.length = ((List.range n).map fun i => V.int (i : Nat)).length := by simp [hlen]
    have ez : (((List.range n).map fun i => V.int (i : Nat)).zip ks).map (·.2) = ks := zip_snd hlen'
    rw [← ez] at ko
    have each := PySem.W.keyedOut_each (R := fun (v : Value) (q : V × PyData) => L2.RelV q.1 v) (·.2) ko (each_zip rv hlen')
    have vo := vals_each each
    have len : (((((List.range n).map fun i => V.int (i : Nat)).zip ks).mergeSort (PySem.W.dataLe false (·.2))).map (·.1)).length ≤ sizeLine := by
      rw [List.length_map, List.length_mergeSort, List.length_zip, sizeLine_eq]
      simp
      omega
    exact ⟨.ref _, upd H2 h1.objs.size (.lst (((((List.range n).map fun i => V.int (i : Nat)).zip ks).mergeSort (PySem.W.dataLe false (·.2))).map (·.1))), I3.laid (t' := tk) kp (Nat.le_refl _) ⟨len, out, cc, vo, hD⟩, rfl, hQ H2 _ eN T2 (I3.hok.fresh (Nat.le_refl _))⟩
end
end PD
set_option Elab.async false
set_option linter.all false
set_option autoImplicit false
set_option maxRecDepth 100000
set_option maxHeartbeats 4000000
/-! PD, part 24: sorted(range(e), key=lambda x: body) at the level of data. -/
namespace PD
open PySem PySem.Spec PyProof.Rows L2
theorem cr_rangeOne {X : Cx} : CallR X (.type "range") (fun vs H Q => ∃ j, vs = [V.int j] ∧ ∀ p, H p = none → Q (.ref p) (upd H p (.rng 0 j))) := by
  intro pins s σ H vs us Q I r h
  obtain ⟨j, rfl, q⟩ := h
  obtain ⟨u, rfl, ri⟩ := vals1 r
  obtain ⟨t, rfl⟩ := ri
  refine call_range_1 ⟨.ref s.heap.objs.size, upd H s.heap.objs.size (.rng 0 j), I.laid (fun b o e => Heap.get?_push_of_some _ e) (Nat.le_refl _) ?_, rfl, q _ (I.hok.fresh (Nat.le_refl _))⟩
  exact ⟨_, _, _, Heap.get?_push_size _ rfl⟩
def intD (n : Nat) : List D := (List.range n).map fun i => D.int (i : Nat)
def aSortKR (j : Nat) (fk : PRho → Option PyData) (t : AE) : AE := fun ρ κ R => t ρ κ fun d κ1 => ∃ (n : Nat) (ks : List PyData), d = .int n ∧ n ≤ 1000 ∧ ks.length = n ∧ PySem.W.AllAlike ks ∧ PySem.W.Sortable ks ∧ (∀ d ∈ ks, d.depth ≤ 10) ∧
  (∀ (i : Nat) (k : PyData), ks[i]? = some k → fk ((pR ρ).set j (some (.int (i : Nat)))) = some k) ∧ R (.lst (sortBy (intD n) ks)) κ1
theorem rps_ints {K : Frag} {mg : MG} {w : Wd} (n : Nat) : Rps K mg w ((List.range n).map fun i => V.int (i : Nat)) (intD n) := rps_of_map fun _ _ => .int _
section
variable {Θ : TbL} {X : Cx} {e body : Expr} {t : AE} {params : Arguments} {scope : Scope} {lpos kpos pos rpos rp p : Pos} {c P : Addr} {x : Str} {j k : Nat} {fk : PRho → Option PyData}
theorem q_sortKR (j : Nat) (hm : X.mg "sorted" = none) (hmr : X.mg "range" = none) (he : QE Θ X e t) (TB : LamX.TabB X.base X.mg c P) (hcode : X.env.code = .ref c) (hmT : (P, X.env.qual ++ "<lambda>") ∈ Θ) (hu : ∀ p ∈ Θ, p.1 = P → p.2 = X.env.qual ++ "<lambda>")
    (hr : Room k X.A) (L : Lam1 X.env.scope scope x) (hdef : defaultsOf params X.env = ([], []))
    (hbind : ∀ (q : Str) (cl : List (Str × Addr)) (pm cv ctv v : Value), bindArgs (PySem.W.kla_fn "<lambda>" q params body scope cl pm cv ctv) ⟨[v], []⟩ = pure [(x, v)])
    (hnd : X.N.Nodup) (hN : X.N[j]? = some x) (hev : ∀ (q : Str) (L f : Addr) (cv : Value) (clo : List (Str × Addr)), EvK X.N (PySem.W.envX q scope L f cv clo) body fk) (hg : Gl X "sorted" := by rfl) (hgr : Gl X "range" := by rfl)
    (hsr : starEach (e :: []) X.env = (false, eval e X.env) :: starEach [] X.env := by rfl) (hplr : (backTo rpos (starEach [] X.env)).any (·.1) = false := by rfl)
    (hst0 : starEach [.Call (.Name "range" rp) [e] [] rpos] X.env = (false, eval (.Call (.Name "range" rp) [e] [] rpos) X.env) :: starEach [] X.env := by rfl) (hst : backTo pos (starEach [.Call (.Name "range" rp) [e] [] rpos] X.env) = (false, eval (.Call (.Name "range" rp) [e] [] rpos) X.env) :: backTo pos (starEach [] X.env) := by rfl) (hpl : (backTo pos (starEach [.Call (.Name "range" rp) [e] [] rpos] X.env)).any (·.1) = false := by rfl) :
    QE Θ X (.Call (.Name "sorted" p) [.Call (.Name "range" rp) [e] [] rpos] [⟨some "key", .Lambda params body scope lpos, kpos⟩] pos) (aSortKR j fk t) :=
  (pe_sortKR hg hm (pe_callTy cr_rangeOne hgr hmr boot_range (pa_cons he pa_nil hsr) (by decide) (by decide) hsr hplr) TB hcode hmT hu hr L hdef hbind hnd hN hev hst0 hst hpl).imp (by
  rintro σ H Q ⟨w, ρ, R, rfl, ok, st, h, k⟩
  refine ⟨w, ρ, _, rfl, ok, st, h, fun d w1 v1 h1 t1 r1 => ?_⟩
  obtain ⟨n, ks, rfl, hz, hl, hal, hsk, hdp, hks, hR⟩ := h1
  have ev := rp_int r1
  subst ev
  refine ⟨_, rfl, fun a ha => ?_⟩
  have t2 := to_put (o := .rng 0 n) t1.ok ha
  refine ⟨t2.ok.tab, a, n, ks, pR ρ, rfl, upd_same, hz, hl, hal, hsk, hdp, fun i d hi => ?_, hks, fun H2 p eN T2 hp => ?_⟩
  · obtain ⟨dd, e2, hp, rfl⟩ := pR_at hi
    obtain ⟨v, ev, rv⟩ := st.at_ i dd e2
    exact ⟨v, ev, dp_of dd v hp ((rv.mono t1.gr).mono t2.gr)⟩
  · have t3 := to_tab t2.ok eN T2
    obtain ⟨t4, r4⟩ := lst_new t3.ok hp (rps_sort (ks := ks) (rps_ints n))
    exact k _ (Wd.put { (w1.put a (.rng 0 n)) with H := H2 } p _) _ hR (((t1.trans t2).trans t3).trans t4) r4)
end
/-- -x in a key -/
def kNeg (o : Option PyData) : Option PyData := o.bind fun d => match d with
  | .int i => some (.int (-i))
  | _ => none
theorem ek_negK {N : List Str} {env : Env} {a : Expr} {f : PRho → Option PyData} {pos : Pos} (ha : EvK N env a f) : EvK N env (.UnaryOp .USub a pos) fun ρ => kNeg (f ρ) := ek_neg ha
end PD
set_option Elab.async false
set_option linter.all false
set_option autoImplicit false
set_option maxRecDepth 100000
set_option maxHeartbeats 4000000
/-! PD, part 25: the end of a law whose defs make lambdas. -/
namespace PD
open PySem PySem.Spec PyProof.Rows L2
/-- the tables of the defs named in xs are known and empty -/
def TabsOf (K : Frag) (h : Heap) (xs : List Str) : Prop := ∀ x ∈ xs, ∀ c P, PySem.W.tabIn K x = some (c, P) → PySem.W.CodeHd h c P ∧ h.get? P = some { cls := .none, data := .fields #[] }
theorem walk_tabs {l : PySem.W.OpenLaw} {n k : Nat} {q : Program} {loose : List Str} {XP : (Str → Option Value) → Heap → Prop} {YP : World → Heap → Prop} {d : DefRec} {K : Params → PySem.W.Frag} {CX : World → CXT} {x : Str} {xs : List Str}
    (hn : l.most = some n) (hn2 : n ≤ sizeLine) (hdf : d.params.defaults = []) (hr : Room k callerA) (hrec : (xs.all fun x => ((recsOf q).find? fun e => e.name == x).isSome) = true) (hY : ∀ (w : World) (h : Heap), YP w h → (K w.params).In h)
    (F : ∀ (w : World) (mg : Str → Option Value) (fa : Addr) (h : Heap), (K w.params).In h → h.Ns mainGlobals mg → mg d.name = some (.ref fa) → TabsOf (K w.params) h xs → LamX.LawAtS l w (K w.params) (CX w) k n x mg fa h)
    (hCX : ∀ (w : World) (H : Hp) (s : Shared) (e : Value) (s' : Shared), CX w [] H s (fun _ _ _ => False) e s' → False) :
    PySem.W.WalkO q loose XP YP l.row.toRowW d [] (fun f vs => PySem.call f vs) := by
  refine Att.attach_callB hn hdf fun w s₀ s₁ mg mb fa o pm cd doc a vs ns G Y ho hd hcd hmg hobj hints hlen hbits hg => ?_
  have KX := hY w _ Y
  have TT : TabsOf (K w.params) s₁.heap xs := fun y hy c P ht => by
    have e := List.all_eq_true.mp hrec y hy
    obtain ⟨d', hd'⟩ := Option.isSome_iff_exists.mp e
    exact PySem.W.tab_of G.T KX hd' ht
  obtain ⟨fd, cs, sp, hT, nT, C, hb, hsp, hF⟩ := F w mg fa _ KX G.T.g hmg TT
  exact LamX.law_callTs KX G.T.g G.T.b G.T.builtins G.T.nolimit hg hT nT C G.T.bmain hobj hints (Nat.le_trans hlen hn2) hr hF hb (fun H hH hS => hsp H a ns hlen hbits hH hS) fun H e s' => hCX w H s₁ e s'
/-- the tables of a law: def's name, code object, table, the lambdas' name -/
abbrev TabRow := Str × Addr × Addr × Str
def thOf (ts : List TabRow) : TbL := ts.map fun t => (t.2.2.1, t.2.2.2)
theorem tb_un {ts : List TabRow} {x : Str} {c P : Addr} {q : Str} (hn : (ts.map fun t => t.2.2.1).Nodup) (m : (x, c, P, q) ∈ ts) : ∀ p ∈ thOf ts, p.1 = P → p.2 = q := by
  intro p hp e
  obtain ⟨t, ht, rfl⟩ := List.mem_map.mp hp
  have : t = (x, c, P, q) := by
    clear hp
    induction ts with
    | nil => cases ht
    | cons a ts ih =>
      rw [List.map_cons, List.nodup_cons] at hn
      rcases List.mem_cons.mp ht with rfl | ht2 <;> rcases List.mem_cons.mp m with h | m2
      · rw [h]
      · exact (hn.1 (List.mem_map.mpr ⟨_, m2, e.symm⟩)).elim
      · subst h
        exact (hn.1 (List.mem_map.mpr ⟨_, ht2, e⟩)).elim
      · exact ih hn.2 m2 ht2
  rw [this]
theorem th_mem {ts : List TabRow} {x : Str} {c P : Addr} {q : Str} (m : (x, c, P, q) ∈ ts) : (P, q) ∈ thOf ts := List.mem_map.mpr ⟨_, m, rfl⟩
theorem lawAt_of {l : PySem.W.OpenLaw} {w : World} {K : Frag} {k : Nat} {mg : Str → Option Value} {fa : Addr} {h : Heap} {xs : List Str} {fd : FuncData} (ts : List TabRow) (TT : TabsOf K h xs) (hx : ∀ t ∈ ts, t.1 ∈ xs ∧ PySem.W.tabIn K t.1 = some (t.2.1, t.2.2.1) ∧ K.lookup t.2.2.1 = none)
    (hb : ∀ (s : Shared) (u : Value), BindsTo s fd ⟨[u], []⟩ [("script", u)])
    (hF : ∀ base : Heap, K.In base → base.Ns mainGlobals mg → (∀ t ∈ ts, LamX.TabB base mg t.2.1 t.2.2.1) → FnOk l.prog w K mg base CX0 k fa fd ["script"] (spScr K (thOf ts))) :
    LamX.LawAtS l w K CX0 k 63 "script" mg fa h := by
  have at_ : ∀ p ∈ ts.map fun t => (t.2.1, t.2.2.1), ∃ t ∈ ts, p = (t.2.1, t.2.2.1) := fun p hp => by
    obtain ⟨t, ht, rfl⟩ := List.mem_map.mp hp
    exact ⟨t, ht, rfl⟩
  refine ⟨fd, ts.map fun t => (t.2.1, t.2.2.1), spScr K (thOf ts), fun p hp => ?_, fun p hp => ?_, fun p hp => ?_, hb, fun H a ns h1 _ h3 h4 => ⟨a, ns, rfl, fun p hp => ?_, h4, h1, fun _ => rfl⟩, fun base h1 h2 h3 => hF base h1 h2 fun t ht => h3 (t.2.1, t.2.2.1) (List.mem_map.mpr ⟨t, ht, rfl⟩)⟩
  · obtain ⟨t, ht, rfl⟩ := at_ p hp
    obtain ⟨a, b, c⟩ := hx t ht
    exact (TT _ a _ _ b).2
  · obtain ⟨t, ht, rfl⟩ := at_ p hp
    exact (hx t ht).2.2
  · obtain ⟨t, ht, rfl⟩ := at_ p hp
    obtain ⟨a, b, c⟩ := hx t ht
    exact (TT _ a _ _ b).1
  · obtain ⟨t, ht, rfl⟩ := List.mem_map.mp hp
    exact h3 (t.2.1, t.2.2.1) (List.mem_map.mpr ⟨t, ht, rfl⟩)
theorem tabIn_of {K : Frag} {x : Str} {f c P : Addr} {oc tyc : Value} {od ddc : Option Addr} {fd : FuncData} {sl slc : Array (Option Value)} {vs : Array Value} (h1 : PySem.W.nsIn K mainGlobals x = some (some (.ref f))) (h2 : K.lookup f = some ⟨oc, od, .func fd, sl⟩) (h3 : fd.code = .ref c)
    (h4 : K.lookup c = some ⟨tyc, ddc, .fields vs, slc⟩) (h5 : vs[11]? = some (.ref P)) : PySem.W.tabIn K x = some (c, P) := by
  unfold PySem.W.tabIn
  rw [h1]
  dsimp only
  rw [h2]
  dsimp only
  rw [h3]
  dsimp only
  rw [h4]
  dsimp only
  rw [h5]
end PD
set_option Elab.async false
set_option linter.all false
set_option autoImplicit false
set_option maxRecDepth 100000
set_option maxHeartbeats 4000000
/-! PD, part 26: sorted(e) of a list of plain data. -/
namespace PD
open PySem PySem.Spec PyProof.Rows L2
def rSortD (K : Frag) : List V → Hp → VK → Prop := fun vs H Q => ∃ (a : Addr) (xs : List V) (ks : List PyData), vs = [.ref a] ∧ SqL K H a xs ∧ xs.length ≤ 100000 ∧ ks.length = xs.length ∧ PySem.W.AllAlike ks ∧ PySem.W.Sortable ks ∧ (∀ d ∈ ks, d.depth ≤ 10) ∧
  (∀ (i : Nat) (v : V) (k : PyData), xs[i]? = some v → ks[i]? = some k → Dp K H v k) ∧
  ∀ p, H p = none → Q (.ref p) (upd H p (.lst (((xs.zip ks).mergeSort (PySem.W.dataLe false (·.2))).map (·.1))))
theorem each_of_get {α β : Type} {R : α → β → Prop} : ∀ {xs : List α} {ys : List β}, ys.length = xs.length → (∀ (i : Nat) (x : α) (y : β), xs[i]? = some x → ys[i]? = some y → R x y) → PySem.W.EachIs R xs ys
  | [], [], _, _ => .nil
  | x :: xs, y :: ys, hl, h => .cons (h 0 x y rfl rfl) (each_of_get (by simpa using hl) fun i a b e1 e2 => h (i + 1) a b (by simpa using e1) (by simpa using e2))
theorem cr_sortD {X : Cx} (hu : X.A.units + 64 < cLine) : CallR X (.builtin "sorted") (rSortD X.K) := by
  intro pins s σ H vs us Q I r h
  obtain ⟨a, xs, ks, rfl, hs, hz, hlen, hal, hsk, hdp, hks, q⟩ := h
  obtain ⟨its, rv, pl, _⟩ := I.list hs
  obtain ⟨u, rfl, ru⟩ := vals1 r
  obtain rfl : u = Value.ref a := ru
  have hl := rv.length
  have ez : (xs.zip ks).map (·.2) = ks := zip_snd hlen
  have lz : (xs.zip ks).length = xs.length := by rw [List.length_zip, hlen, Nat.min_self]
  refine PySem.W.sorted_data (R := fun (v : Value) (q : V × PyData) => L2.RelV q.1 v) (bs := xs.zip ks) (enc := (·.2)) pl.isList (each_zip rv hlen) ?_ (by rw [ez]; exact hal) (by rw [ez]; exact hsk) (by rw [lz, sizeLine_eq]; omega) ?_ fun out lo eo => ?_
  · refine each_of_get (by rw [lz, hl]) fun i v q hv hq => ?_
    obtain ⟨xv, kv⟩ := q
    have e1 : xs[i]? = some xv ∧ ks[i]? = some kv := by
      rw [List.getElem?_zip_eq_some] at hq
      exact hq
    obtain ⟨v', ev, rvv⟩ := rv.get e1.1
    rw [hv] at ev
    cases ev
    obtain ⟨as, rd⟩ := Dp.reads I kv xv v (hks i xv kv e1.1 e1.2) rvv
    exact ⟨as, rd⟩
  · intro b hb
    have hm : b.2 ∈ ks := (List.of_mem_zip (a := b.1) (b := b.2) hb).2
    have := hdp _ hm
    omega
  · have vo := vals_each eo
    obtain ⟨e, he⟩ := PyProof.Rows.sortedAll_at s.heap its out.toArray
    have len : (((xs.zip ks).mergeSort (PySem.W.dataLe false (·.2))).map (·.1)).length ≤ sizeLine := by
      rw [List.length_map, List.length_mergeSort, lz, sizeLine_eq]
      omega
    exact ⟨.ref _, upd H (s.heap.objs.size + 1) (.lst (((xs.zip ks).mergeSort (PySem.W.dataLe false (·.2))).map (·.1))), I.laid (t' := s.toks) (fun _ _ => PyProof.Rows.sortedAll_old) (Nat.le_succ _) ⟨len, out, e, vo, he⟩, rfl, q _ (I.hok.fresh (Nat.le_succ _))⟩
def dSortD : AC := fun ds κ R => match ds with
  | [d] => ∃ xs, seqOf κ d = some xs ∧ xs.length ≤ 100000 ∧ plains xs = true ∧ PySem.W.AllAlike (pysOf xs) ∧ PySem.W.Sortable (pysOf xs) ∧ (∀ d ∈ pysOf xs, d.depth ≤ 10) ∧ R (.lst (sortBy xs (pysOf xs))) κ
  | _ => False
theorem pysOf_eq : ∀ xs : List D, pysOf xs = xs.map pyOf
  | [] => rfl
  | x :: xs => by rw [pysOf, pysOf_eq xs]; rfl
theorem co_sortD {K : Frag} {mg : MG} : CallOp K mg (rSortD K) dSortD := by
  intro w vs ds R Q ok r h k
  unfold dSortD at h
  split at h
  · obtain ⟨xs, e, hz, hp, hal, hsk, hd, hR⟩ := h
    obtain ⟨v, rfl, rv⟩ := rps1 r
    obtain ⟨a, us, rfl, hs, ru⟩ := seqOf_at ok rv e
    have lu := ru.length
    refine ⟨a, us, pysOf xs, rfl, hs, by omega, by rw [pysOf_eq, List.length_map, lu], hal, hsk, hd, fun i v k hv hk => ?_, fun p hn => ?_⟩
    · rw [pysOf_eq, List.getElem?_map] at hk
      obtain ⟨x, ex, rfl⟩ := Option.map_eq_some_iff.mp hk
      obtain ⟨v', ev, rx⟩ := ru.get ex
      rw [hv] at ev
      cases ev
      exact dp_of _ _ (plains_mem hp (List.mem_of_getElem? ex)) rx
    · obtain ⟨t2, r2⟩ := lst_new ok hn (rps_sort (ks := pysOf xs) ru)
      exact k _ (w.put p _) _ hR t2 r2
  · exact h.elim
section
variable {Θ : TbL} {X : Cx} {e : Expr} {es : List Expr} {ta : AA} {pos p : Pos} {k : Nat}
theorem q_sortD (hr : Room k X.A) (hm : X.mg "sorted" = none) (ha : QA Θ X (e :: es) ta) (hg : Gl X "sorted" := by rfl)
    (he : starEach (e :: es) X.env = (false, eval e X.env) :: starEach es X.env := by rfl) (hpl : (backTo pos (starEach es X.env)).any (·.1) = false := by rfl) : QE Θ X (.Call (.Name "sorted" p) (e :: es) [] pos) (aCB dSortD ta) :=
  q_callB (cr_sortD (by have := hr.un; omega)) co_sortD hm boot_sorted ha hg (by decide) (by decide) he hpl
end
/-- pairs of ints -/
theorem sortBy_pairs (qs : List (Int × Int)) : sortBy (qs.map eP) (pysOf (qs.map eP)) = (ZC.sortP qs).map eP := by
  have e0 : pysOf (qs.map eP) = qs.map fun q => .tuple [.int q.1, .int q.2] := by
    rw [pysOf_eq, List.map_map]
    rfl
  have e1 : (qs.map eP).zip (pysOf (qs.map eP)) = qs.map fun q => (eP q, pyOf (eP q)) := by
    rw [e0, List.zip_map']
    rfl
  have e2 : qs.mergeSort (PySem.W.dataLe false fun q : Int × Int => .tuple [.int q.1, .int q.2]) = ZC.sortP qs := by
    rw [PySem.W.dataLe_ii]
    rfl
  rw [sortBy, e1, ← e2, ← List.map_mergeSort (r := PySem.W.dataLe false fun q : Int × Int => .tuple [.int q.1, .int q.2]) (s := PySem.W.dataLe false (fun p : D × PyData => p.2)) (f := fun q : Int × Int => (eP q, pyOf (eP q))) (fun a _ b _ => rfl), List.map_map]
  rfl
theorem plains_pairs (qs : List (Int × Int)) : plains (qs.map eP) = true := by
  induction qs with
  | nil => rfl
  | cons q qs ih => rw [List.map_cons, plains, ih]; rfl
theorem pairs_ok (qs : List (Int × Int)) : PySem.W.AllAlike (pysOf (qs.map eP)) ∧ PySem.W.Sortable (pysOf (qs.map eP)) ∧ ∀ d ∈ pysOf (qs.map eP), d.depth ≤ 10 := by
  have e0 : pysOf (qs.map eP) = qs.map fun q => .tuple [.int q.1, .int q.2] := by
    rw [pysOf_eq, List.map_map]
    rfl
  rw [e0]
  refine ⟨PySem.W.AllAlike.of fun _ _ => by simp [PySem.W.alike, PySem.W.alikeAll], PySem.W.Sortable.tuples fun _ => ⟨_, _, rfl⟩, fun d hd => ?_⟩
  obtain ⟨q, _, rfl⟩ := List.mem_map.mp hd
  have e : (PyData.tuple [.int q.1, .int q.2]).depth = 1 := by simp [PyData.depth, PyData.depthAll]
  omega
end PD
set_option Elab.async false
set_option linter.all false
set_option autoImplicit false
set_option maxRecDepth 100000
set_option maxHeartbeats 4000000
/-! PD, part 27: xs + ys and xs * n as new lists that may be changed; unfolding of the later readings; sorting by keys in plain words. -/
namespace PD
open PySem PySem.Spec PyProof.Rows L2
def aAddL (t u : AE) : AA := fun ρ κ RA => t ρ κ fun d κ1 => u ρ κ1 fun e κ2 => ∃ xs ys, lstOf κ2 d = some xs ∧ lstOf κ2 e = some ys ∧ xs.length + ys.length ≤ 16777216 ∧ RA (xs ++ ys) κ2
def aMulL (t u : AE) : AA := fun ρ κ RA => t ρ κ fun d κ1 => u ρ κ1 fun e κ2 => ∃ xs k, lstOf κ2 d = some xs ∧ e = .int k ∧ -1000000 ≤ k ∧ k ≤ 1000000 ∧ xs.length * k.toNat ≤ 16777216 ∧ RA (List.replicate k.toNat xs).flatten κ2
section
variable {Θ : TbL} {X : Cx} {a b : Expr} {t u : AE} {pos : Pos}
theorem q_addL (ha : QE Θ X a t) (hb : QE Θ X b u) : QL Θ X (.BinOp a .Add b pos) (aAddL t u) := (pe_op or_add ha hb).imp (by
  rintro σ H Q ⟨w, ρ, R, rfl, ok, st, h, k⟩
  refine ⟨w, ρ, _, rfl, ok, st, h, fun d w1 v1 h1 t1 r1 => ?_⟩
  refine ⟨w1, ρ, _, rfl, t1.ok, st.mono t1.gr, h1, fun e w2 v2 h3 t2 r2 => ?_⟩
  obtain ⟨xs, ys, e1, e2, hz, hR⟩ := h3
  obtain ⟨p1, us, rfl, hp1, ra⟩ := lstOf_at t2.ok (r1.mono t2.gr) e1
  obtain ⟨p2, vs, rfl, hp2, rb⟩ := lstOf_at t2.ok r2 e2
  exact .inr (.inl ⟨p1, p2, us, vs, rfl, rfl, hp1, hp2, sz (by rw [ra.length, rb.length]; exact hz), fun p hp => new_list (t1.trans t2) (ra.append rb) hR hp k⟩))
theorem q_mulL (ha : QE Θ X a t) (hb : QE Θ X b u) : QL Θ X (.BinOp a .Mult b pos) (aMulL t u) := (pe_op (op_mul.or3 op_mulW op_rep) ha hb).imp (by
  rintro σ H Q ⟨w, ρ, R, rfl, ok, st, h, k⟩
  refine ⟨w, ρ, _, rfl, ok, st, h, fun d w1 v1 h1 t1 r1 => ?_⟩
  refine ⟨w1, ρ, _, rfl, t1.ok, st.mono t1.gr, h1, fun e w2 v2 h3 t2 r2 => ?_⟩
  obtain ⟨xs, i, e1, rfl, h4, h5, hz, hR⟩ := h3
  obtain ⟨p1, us, rfl, hp1, ra⟩ := lstOf_at t2.ok (r1.mono t2.gr) e1
  cases r2
  exact .inr (.inr ⟨p1, _, us, rfl, rfl, hp1, by omega, by omega, sz (by rw [ra.length]; exact hz), fun p hp => new_list (t1.trans t2) (ra.rep _) hR hp k⟩))
end
/-! ### unfolding -/
def addLK (d e : D) (κ : Cs) (RA : List D → Cs → Prop) : Prop := ∃ xs ys, lstOf κ d = some xs ∧ lstOf κ e = some ys ∧ xs.length + ys.length ≤ 16777216 ∧ RA (xs ++ ys) κ
def mulLK (d e : D) (κ : Cs) (RA : List D → Cs → Prop) : Prop := ∃ xs k, lstOf κ d = some xs ∧ e = .int k ∧ -1000000 ≤ k ∧ k ≤ 1000000 ∧ xs.length * k.toNat ≤ 16777216 ∧ RA (List.replicate k.toNat xs).flatten κ
def sortKK (j : Nat) (fk : PRho → Option PyData) (ρ : Rho) (d : D) (κ1 : Cs) (R : D → Cs → Prop) : Prop := ∃ (ds : List D) (ks : List PyData), seqOf κ1 d = some ds ∧ ds.length ≤ 1000 ∧ ks.length = ds.length ∧ PySem.W.AllAlike ks ∧ PySem.W.Sortable ks ∧ (∀ d ∈ ks, d.depth ≤ 10) ∧ plains ds = true ∧
  (∀ (i : Nat) (x : D) (k : PyData), ds[i]? = some x → ks[i]? = some k → fk ((pR ρ).set j (some (pyOf x))) = some k) ∧ R (.lst (sortBy ds ks)) κ1
def sortKRK (j : Nat) (fk : PRho → Option PyData) (ρ : Rho) (d : D) (κ1 : Cs) (R : D → Cs → Prop) : Prop := ∃ (n : Nat) (ks : List PyData), d = .int n ∧ n ≤ 1000 ∧ ks.length = n ∧ PySem.W.AllAlike ks ∧ PySem.W.Sortable ks ∧ (∀ d ∈ ks, d.depth ≤ 10) ∧
  (∀ (i : Nat) (k : PyData), ks[i]? = some k → fk ((pR ρ).set j (some (.int (i : Nat)))) = some k) ∧ R (.lst (sortBy (intD n) ks)) κ1
def sortRK (d : D) (κ1 : Cs) (R : D → Cs → Prop) : Prop := ∃ ns : List Int, seqOf κ1 d = some (ns.map D.int) ∧ ∀ ns' : List Int, ns'.Perm ns → OrdB true ns' → R (.lst (ns'.map D.int)) κ1
def zipMK (ds : List D) (κ' : Cs) (R : List D → Cs → Prop) : Prop := ∃ d e xs ys, ds = [d, e] ∧ anyOf d = some xs ∧ anyOf e = some ys ∧ R (zipD xs ys) κ'
section
variable {ρ : Rho} {κ : Cs} {R : D → Cs → Prop} {RA : List D → Cs → Prop} {RG : Rho → Cs → Prop} {t u : AE} {ta : AA} {j : Nat} {fk : PRho → Option PyData}
@[simp] theorem e_addLL : aAddL t u ρ κ RA ↔ t ρ κ fun d κ1 => u ρ κ1 fun e κ2 => addLK d e κ2 RA := .rfl
@[simp] theorem e_mulLL : aMulL t u ρ κ RA ↔ t ρ κ fun d κ1 => u ρ κ1 fun e κ2 => mulLK d e κ2 RA := .rfl
@[simp] theorem e_sortK : aSortK j fk t ρ κ R ↔ t ρ κ fun d κ1 => sortKK j fk ρ d κ1 R := .rfl
@[simp] theorem e_sortKR : aSortKR j fk t ρ κ R ↔ t ρ κ fun d κ1 => sortKRK j fk ρ d κ1 R := .rfl
@[simp] theorem e_sortR : aSortR t ρ κ R ↔ t ρ κ fun d κ1 => sortRK d κ1 R := .rfl
@[simp] theorem e_zipM : aZipM ta ρ κ RA ↔ ta ρ κ fun ds κ' => zipMK ds κ' RA := .rfl
@[simp] theorem e_dicNew : aDicNew ρ κ R ↔ R (.cell κ.length) (κ ++ [some (.dic [])]) := .rfl
@[simp] theorem e_subD {d : D} : aSubD t u d ρ κ RG ↔ t ρ κ fun o κ1 => u ρ κ1 fun i κ2 => match o with
  | .cell k => ∃ kvs ks, κ2[k]? = some (some (.dic kvs)) ∧ nkOf i = some (.tup ks) ∧ (NestedKey.tup ks).depth ≤ 8 ∧ kvs.length ≤ 1000000 ∧ RG ρ (κ2.set k (some (.dic (putDic kvs i d))))
  | _ => False := .rfl
@[simp] theorem addLK_ll {xs ys : List D} : addLK (.lst xs) (.lst ys) κ RA ↔ xs.length + ys.length ≤ 16777216 ∧ RA (xs ++ ys) κ := by
  constructor
  · rintro ⟨_, _, e1, e2, h⟩
    cases e1
    cases e2
    exact h
  · intro h
    exact ⟨_, _, rfl, rfl, h⟩
@[simp] theorem mulLK_l {xs : List D} {k : Int} : mulLK (.lst xs) (.int k) κ RA ↔ -1000000 ≤ k ∧ k ≤ 1000000 ∧ xs.length * k.toNat ≤ 16777216 ∧ RA (List.replicate k.toNat xs).flatten κ := by
  constructor
  · rintro ⟨_, _, e1, e2, h⟩
    cases e1
    cases e2
    exact h
  · intro h
    exact ⟨_, _, rfl, rfl, h⟩
@[simp] theorem zipMK_ll {xs ys : List D} : zipMK [.lst xs, .lst ys] κ RA ↔ RA (zipD xs ys) κ := by
  constructor
  · rintro ⟨_, _, _, _, e, e1, e2, h⟩
    cases e
    cases e1
    cases e2
    exact h
  · intro h
    exact ⟨_, _, _, _, rfl, rfl, rfl, h⟩
@[simp] theorem zipMK_tl {xs ys : List D} : zipMK [.tup xs, .lst ys] κ RA ↔ RA (zipD xs ys) κ := by
  constructor
  · rintro ⟨_, _, _, _, e, e1, e2, h⟩
    cases e
    cases e1
    cases e2
    exact h
  · intro h
    exact ⟨_, _, _, _, rfl, rfl, rfl, h⟩
@[simp] theorem zipMK_tt {xs ys : List D} : zipMK [.tup xs, .tup ys] κ RA ↔ RA (zipD xs ys) κ := by
  constructor
  · rintro ⟨_, _, _, _, e, e1, e2, h⟩
    cases e
    cases e1
    cases e2
    exact h
  · intro h
    exact ⟨_, _, _, _, rfl, rfl, rfl, h⟩
@[simp] theorem sortRK_ints {ns : List Int} : sortRK (.lst (ns.map D.int)) κ R ↔ ∀ ns' : List Int, ns'.Perm ns → OrdB true ns' → R (.lst (ns'.map D.int)) κ := by
  constructor
  · rintro ⟨ms, e, h⟩
    rw [ints_inj (Option.some.inj e)]
    exact h
  · intro h
    exact ⟨_, rfl, h⟩
end
/-! ### sorting by keys -/
theorem sortBy_map {α : Type} (a : α → D) (kf : α → PyData) (xs : List α) : sortBy (xs.map a) (xs.map kf) = (xs.mergeSort (PySem.W.dataLe false kf)).map a := by
  have e1 : (xs.map a).zip (xs.map kf) = xs.map fun q => (a q, kf q) := List.zip_map'
  rw [sortBy, e1, ← List.map_mergeSort (r := PySem.W.dataLe false kf) (s := PySem.W.dataLe false (fun p : D × PyData => p.2)) (f := fun q : α => (a q, kf q)) (fun a _ b _ => rfl), List.map_map]
  rfl
theorem sorted_ms {α : Type} (kf : α → PyData) (xs : List α) : (xs.mergeSort (PySem.W.dataLe false kf)).Pairwise fun a b => PySem.W.dataLe false kf a b = true := by
  have T := PySem.W.sortLe_total (PyProof.Rows.listOrd PyProof.Rows.itemOrd) false fun b => PySem.W.keyToks (kf b)
  exact List.pairwise_mergeSort (le := PySem.W.dataLe false kf) T.trans (fun a b => by
    rw [Bool.or_eq_true]
    exact T.total a b) xs
theorem sort_int_le {α : Type} (x : α → Int) (xs : List α) : (xs.mergeSort (PySem.W.dataLe false fun b => .int (x b))).Pairwise fun a b => x a ≤ x b := (sorted_ms (fun b => .int (x b)) xs).imp fun {a b} h => by
  rw [PySem.W.dataLe_int] at h
  exact of_decide_eq_true h
theorem sort_tup_le {α : Type} (x : α → Int) (r : α → List PyData) (xs : List α) : (xs.mergeSort (PySem.W.dataLe false fun b => .tuple (.int (x b) :: r b))).Pairwise fun a b => x a ≤ x b := (sorted_ms (fun b => .tuple (.int (x b) :: r b)) xs).imp fun {a b} h => by
  rw [PySem.W.dataLe_eq] at h
  have h' : PySem.W.dataLt (.tuple (.int (x b) :: r b)) (.tuple (.int (x a) :: r a)) = false := by simpa using h
  refine Classical.byContradiction fun hn => ?_
  have lt : x b < x a := by omega
  have e : PySem.W.dataLt (.tuple (.int (x b) :: r b)) (.tuple (.int (x a) :: r a)) = true := by
    unfold PySem.W.dataLt
    rw [PySem.W.keyToks, PySem.W.keyToks, PySem.W.toks_all_cons, PySem.W.toks_all_cons, PyProof.Rows.lex_self, PySem.W.keyToks, PySem.W.keyToks]
    rw [List.cons_append, List.cons_append, PyProof.Rows.lex_diff (by intro q; have := Sum.inl.inj q; omega)]
    exact decide_eq_true lt
  rw [h'] at e
  cases e
/-- sorting a list that is the picture of another -/
theorem use_sortK {α : Type} {j : Nat} {fk : PRho → Option PyData} {ρ : Rho} {κ : Cs} {R : D → Cs → Prop} (a : α → D) (kf : α → PyData) (xs : List α) (hn : xs.length ≤ 1000) (hal : PySem.W.AllAlike (xs.map kf)) (hsk : PySem.W.Sortable (xs.map kf)) (hd : ∀ x ∈ xs, (kf x).depth ≤ 10) (hp : ∀ x ∈ xs, plain (a x) = true)
    (hk : ∀ x ∈ xs, fk ((pR ρ).set j (some (pyOf (a x)))) = some (kf x)) (h : R (.lst ((xs.mergeSort (PySem.W.dataLe false kf)).map a)) κ) : sortKK j fk ρ (.lst (xs.map a)) κ R := by
  refine ⟨xs.map a, xs.map kf, rfl, by rwa [List.length_map], by rw [List.length_map, List.length_map], hal, hsk, fun d hd' => ?_, ?_, fun i x k e1 e2 => ?_, by rw [sortBy_map]; exact h⟩
  · obtain ⟨x, hx, rfl⟩ := List.mem_map.mp hd'
    exact hd x hx
  · clear hn hal hsk hd hk h
    induction xs with
    | nil => rfl
    | cons x xs ih => rw [List.map_cons, plains, hp x (by simp), ih fun y hy => hp y (by simp [hy])]; rfl
  · rw [List.getElem?_map] at e1 e2
    obtain ⟨y, ey, rfl⟩ := Option.map_eq_some_iff.mp e1
    rw [ey] at e2
    cases e2
    exact hk y (List.mem_of_getElem? ey)
theorem use_sortKR {j : Nat} {fk : PRho → Option PyData} {ρ : Rho} {κ : Cs} {R : D → Cs → Prop} (x : Nat → Int) (n : Nat) (hn : n ≤ 1000) (hk : ∀ i, i < n → fk ((pR ρ).set j (some (.int (i : Nat)))) = some (.int (x i)))
    (h : ∀ ord : List Nat, ord.Perm (List.range n) → ord.Pairwise (fun a b => x a ≤ x b) → R (.lst (ord.map fun i => D.int (i : Nat))) κ) : sortKRK j fk ρ (.int (n : Nat)) κ R := by
  refine ⟨n, (List.range n).map fun i => .int (x i), rfl, hn, by simp, PySem.W.AllAlike.of fun _ _ => by simp [PySem.W.alike], PySem.W.Sortable.others fun _ => ⟨by simp, by simp⟩, fun d hd => ?_, fun i k e => ?_, ?_⟩
  · obtain ⟨i, _, rfl⟩ := List.mem_map.mp hd
    simp [PyData.depth]
  · rw [List.getElem?_map] at e
    obtain ⟨y, ey, rfl⟩ := Option.map_eq_some_iff.mp e
    have hy := List.getElem?_eq_some_iff.mp ey
    have hi : i < n := by simpa using hy.1
    have : y = i := by rw [← hy.2, List.getElem_range]
    rw [this]
    exact hk i hi
  · rw [intD, sortBy_map]
    exact h _ (List.mergeSort_perm _ _) (sort_int_le _ _)
end PD
set_option Elab.async false
set_option linter.all false
set_option autoImplicit false
set_option maxRecDepth 100000
set_option maxHeartbeats 4000000
/-! PD, part 28: small words for bodies. -/
namespace PD
open PySem PySem.Spec PyProof.Rows L2
section
variable {ρ : Rho} {κ : Cs} {R : D → Cs → Prop} {RA : List D → Cs → Prop}
@[simp] theorem e_eqS {i j : Str} : dEq (.str i) (.str j) κ R ↔ R (.bl (decide (i = j))) κ := .rfl
@[simp] theorem e_neS {i j : Str} : dNe (.str i) (.str j) κ R ↔ R (.bl (!decide (i = j))) κ := .rfl
@[simp] theorem e_isB {b c : Bool} {f : Bool → Bool} : dIsB f (.bl c) (.bl b) κ R ↔ R (.bl (f (decide (c = b)))) κ := .rfl
@[simp] theorem e_isBn {b : Bool} {f : Bool → Bool} : dIsB f .non (.bl b) κ R ↔ R (.bl (f false)) κ := .rfl
theorem zipD_map {α β : Type} (f : α → D) (g : β → D) : ∀ (xs : List α) (ys : List β), zipD (xs.map f) (ys.map g) = (xs.zip ys).map fun p => .tup [f p.1, g p.2]
  | [], _ => by simp [zipD]
  | _ :: _, [] => by simp [zipD]
  | x :: xs, y :: ys => by
    rw [List.map_cons, List.map_cons, zipD, zipD_map f g xs ys]
    rfl
/-- a comprehension with a test, whose turns change nothing -/
theorem comp_filt {α : Type} {g : AG} {tt : AT} {te : AE} {xs : List α} {a b : α → D} (p : α → Bool) (hn : xs.length ≤ 16777216)
    (hs : ∀ x, x ∈ xs → ∀ (Z : D → Cs → Prop) (Y : Cs → Prop), (p x = true → Z (b x) κ) → (p x = false → Y κ) → g (a x) ρ κ fun ρ2 κ2 => tt ρ2 κ2 fun c κ3 => if c = true then te ρ2 κ3 Z else Y κ3)
    (he : RA ((xs.filter p).map b) κ) : compL g tt te ρ (xs.map a) [] κ RA := by
  have key : ∀ (ys : List α) (acc : List D), (∀ x ∈ ys, x ∈ xs) → acc.length + ys.length ≤ 16777216 → RA (acc ++ (ys.filter p).map b) κ → compL g tt te ρ (ys.map a) acc κ RA := by
    intro ys
    induction ys with
    | nil =>
      intro acc _ _ h
      simpa [compL] using h
    | cons y ys ih =>
      intro acc hm hl h
      rw [List.length_cons] at hl
      refine hs y (hm y (by simp)) _ _ (fun q => ⟨by omega, ?_⟩) fun q => ?_
      · refine ih _ (fun x hx => hm x (by simp [hx])) (by rw [List.length_append]; simp; omega) ?_
        rw [List.filter_cons, if_pos q, List.map_cons] at h
        rw [List.append_assoc]
        exact h
      · refine ih _ (fun x hx => hm x (by simp [hx])) (by omega) ?_
        rw [List.filter_cons, if_neg (by rw [q]; decide)] at h
        exact h
  exact key xs [] (fun _ h => h) (by simpa using hn) (by simpa using he)
end
@[simp] theorem ex_nb {c : Bool} {P : Bool → Prop} : (∃ b, c = !b ∧ P b) ↔ P (!c) := by
  constructor
  · rintro ⟨b, rfl, h⟩
    rwa [Bool.not_not]
  · intro h
    exact ⟨!c, by rw [Bool.not_not], h⟩
/-- a list of numbers of seats -/
def lX (b : List Nat) : D := .lst (b.map fun n => .int (n : Nat))
theorem lX_lN (b : List Nat) : lX b = lN (b.map fun n : Nat => (n : Int)) := by rw [lX, lN, List.map_map]; rfl
theorem lX_inj {a b : List Nat} (e : lX a = lX b) : a = b := by
  rw [lX, lX] at e
  injection e with e
  exact map_inj (fun _ _ q => by injection q with q; exact Int.ofNat.inj q) e
theorem atI_app {xs : List D} {n : Nat} {i : Int} (h : i = (n : Nat)) (hl : n < xs.length) : atI xs i = some xs[n] := by subst h; exact atI_nat hl
theorem ixN_app {m n : Nat} {i : Int} (h : i = (n : Nat)) (hl : n < m) : ixN m i = some n := by subst h; exact ixN_lt hl
end PD
set_option Elab.async false
set_option linter.all false
set_option autoImplicit false
set_option maxRecDepth 100000
set_option maxHeartbeats 4000000
/-! PD, part 29: len of an object that has its own __len__; range downwards; one of two texts by a text. -/
namespace PD
open PySem PySem.Spec PyProof.Rows L2
/-! ### {a: b, c: d}[x] -/
def aPick (ps : List (Str × Str)) (t : AE) : AE := fun ρ κ R => t ρ κ fun d κ1 => ∃ x y, d = .str x ∧ ps.lookup x = some y ∧ R (.str y) κ1
theorem upd_twice {H : Hp} {p : Addr} {a b : HO} : upd (upd H p a) p b = upd H p b := by
  funext q
  by_cases h : q = p
  · subst h
    rw [upd_same, upd_same]
  · rw [upd_ne h, upd_ne h, upd_ne h]
section
variable {Θ : TbL} {X : Cx} {i : Expr} {t : AE} {pos dpos p1 p2 p3 p4 : Pos} {k j1 j2 j3 j4 : Nat} {x1 x2 y1 y2 : Str}
theorem q_pick (hr : Room k X.A) (hi : QE Θ X i t) (hne : (x1 == x2) = false := by decide) (hs : NoSl i := by exact fun _ _ => rfl) :
    QE Θ X (.Subscript (.Dict [some (.Constant (.str x1) j1 p1), some (.Constant (.str x2) j2 p2)] [.Constant (.str y1) j3 p3, .Constant (.str y2) j4 p4] dpos) i pos) (aPick [(x1, y1), (x2, y2)] t) :=
  (pe_dget (by have := hr.un; omega) (pe_disp (pps_cons pe_str pe_str (pps_cons pe_str pe_str pps_nil)) rfl rfl (by simp) (by simp)) hi hs).imp (by
  rintro σ H Q ⟨w, ρ, R, rfl, ok, st, h, kk⟩
  intro p hp
  have hne' : x1 ≠ x2 := fun e => by subst e; simp at hne
  refine ⟨upd_same, [(Sum.inr x1, .str y1), (Sum.inr x2, .str y2)], rfl, by simp, ?_⟩
  have em : mergeK [] [(Sum.inr x1, V.str y1), (Sum.inr x2, V.str y2)] = [(Sum.inr x1, V.str y1), (Sum.inr x2, V.str y2)] := by
    simp [mergeK, putK, hne']
  rw [em, upd_twice]
  have t1 := to_put (o := .dK [(Sum.inr x1, V.str y1), (Sum.inr x2, V.str y2)]) ok hp
  refine ⟨w.put p _, ρ, _, rfl, t1.ok, st.mono t1.gr, h, fun d w2 v h2 t2 r2 => ?_⟩
  obtain ⟨x, y, rfl, hl, hR⟩ := h2
  cases r2
  have hp2 : w2.H p = some (.dK [(Sum.inr x1, V.str y1), (Sum.inr x2, V.str y2)]) := (t2.gr.im p _ upd_same (fun _ z => nomatch z) (ok.new hp)).1
  refine ⟨p, .str y, rfl, .inl ⟨_, Sum.inr x, .inl hp2, rfl, ?_⟩, kk _ w2 _ hR (t1.trans t2) (.str y)⟩
  rw [List.lookup_cons] at hl
  cases q1 : x == x1 with
  | true =>
    have e : x = x1 := by simpa using q1
    subst e
    rw [q1] at hl
    cases hl
    simp [valV]
  | false =>
    rw [q1] at hl
    rw [List.lookup_cons] at hl
    cases q2 : x == x2 with
    | true =>
      have e : x = x2 := by simpa using q2
      subst e
      rw [q2] at hl
      cases hl
      simp [valV, hne']
    | false =>
      rw [q2] at hl
      cases hl)
end
/-! ### range(a, b, -1) -/
def rangeN (hi : Int) (n : Nat) : List D := (List.range n).map fun i => D.int (hi - (i : Nat))
def aRngN (ta : AA) : AA := fun ρ κ RA => ta ρ κ fun ds κ' => ∃ i j : Int, ds = [.int i, .int j, .int (-1)] ∧ (-1000000000 ≤ i ∧ i ≤ 1000000000 ∧ -1000000000 ≤ j ∧ j ≤ 1000000000) ∧ RA (rangeN i (i - j).toNat) κ'
theorem walks_rangeN {K : Frag} {mg : MG} {w : Wd} {hi : Int} {n : Nat} : Walks K mg (Itc hi (-1) n) w (rangeN hi n) := fun w1 g ok =>
  ⟨by show n ≤ (rangeN hi n).length; rw [rangeN, List.length_map, List.length_range]; exact Nat.le_refl _, fun i d e => by
    have hi' : i < n := by
      have h := (List.getElem?_eq_some_iff.mp e).1
      rw [rangeN, List.length_map, List.length_range] at h
      exact h
    refine ⟨hi', fun x H' y => ?_⟩
    obtain ⟨rfl, rfl⟩ := y
    rw [rangeN, List.getElem?_map, List.getElem?_range hi'] at e
    cases e
    refine ⟨w1, rfl, rfl, .refl ok, ?_⟩
    rw [show hi + ((i : Nat) : Int) * -1 = hi - (i : Nat) by omega]
    exact .int _⟩
section
variable {Θ : TbL} {X : Cx} {a b c tg : Expr} {ta : AA} {p pos : Pos}
theorem qi_rngN (hm : X.mg "range" = none) (ha : QA Θ X [a, b, c] ta) (hg : Gl X "range" := by rfl) (hs : starEach [a, b, c] X.env = (false, eval a X.env) :: starEach [b, c] X.env := by rfl) (hpl : (backTo pos (starEach [b, c] X.env)).any (·.1) = false := by rfl) :
    QI Θ X tg (.Call (.Name "range" p) [a, b, c] [] pos) (aRngN ta) := (pi_range3 hg hm ha hs hpl).imp (by
  rintro σ H R ⟨w, ρ, P, rfl, ok, st, h, k⟩
  refine ⟨w, ρ, _, rfl, ok, st, h, fun ds w1 vs h1 t1 r1 => ?_⟩
  obtain ⟨i, j, rfl, hb, h1⟩ := h1
  cases r1 with
  | cons ra r1 =>
    obtain ⟨v, u, rfl, rv, ru⟩ := rps2 r1
    cases ra
    cases rv
    cases ru
    exact ⟨i, j, -1, _, rfl, RgC.neg (by omega) (by omega) (by omega) (by omega), k _ w1 _ h1 t1 walks_rangeN⟩)
end
/-! ### len(o), o with its own __len__ -/
def rLenO (C : Addr) (sp : Sp) : List V → Hp → VK → Prop := fun vs H Q => ∃ (a dx : Addr) (fs : List (Str × V)), vs = [.ref a] ∧ H a = some (.ins C dx fs) ∧ sp [.ref a] H (fun v H2 => ∃ n : Nat, v = .int (n : Nat) ∧ n ≤ 1000000 ∧ Q (.int (n : Nat)) H2) E0
section
variable {X : Cx} {C f : Addr} {fd : FuncData} {ps : List Str} {sp : Sp} {k : Nat}
theorem call_lenO (hm : Meth X.K C "__len__" f) (F : FnOk X.prog X.w X.K X.mg X.base CX0 k f fd ps sp) (hr : Room (k + 1) X.A) (hb : Binds X.K fd ps []) (hx : Passes CX0 X E0) : CallR X (.builtin "len") (rLenO C sp) := by
  intro pins s σ H vs us Q I r h
  obtain ⟨a, dx, fs, rfl, ea, q⟩ := h
  obtain ⟨u, rfl, ru⟩ := vals1 r
  obtain rfl : u = Value.ref a := ru
  obtain ⟨mA, O, _⟩ := ins_get I.hok ea
  have sp' : PySem.W.Looks (model X.prog X.w) s.heap (specialOf (.ref a) "__len__") (some (.ref f)) := (NwA.type_at O.obj rfl).andThen (PySem.W.looks_findIn I.kIn hm.at_)
  have hlen : ([Value.ref a] ++ []).length = ps.length := F.len [V.ref a] H _ _ q
  refine Calls.call_function_entry kind_len plain_len entry_len (args_len1 _) ?_
  unfold Builtin.«len»
  refine wpAny_bind (m := oneArg "len" _) (wpAny_pure ?_)
  refine wpAny_bind (m := callSpecial? (.ref a) (PySem.Str.ofString "__len__")) ?_
  simp only [callSpecial?]
  refine wpAny_bind (sp'.here ?_)
  refine wpAny_holding (wpAny_bind ((PySem.W.bind_fn I.kIn (.ref a) (beq_iff_eq.mp hm.fn)).here (wpAny_bind ?_)))
  refine wpAny_call (codeAny_mono (F.run X.A.in1 X.stack s H ⟨[.ref a], []⟩ [.ref a] [.ref a] _ E0 hr.in1 I.env0.in1 (hb s [.ref a] I.kIn hlen) (.cons rfl .nil) q) fun r s' hq => ?_)
  cases r with
  | error e => exact hx pins σ H s e s' I hq
  | ok fl =>
    cases fl with
    | next => exact False.elim hq
    | brk => exact False.elim hq
    | cont => exact False.elim hq
    | ret u =>
      obtain ⟨v, H', I3, rv, n, rfl, hn, q3⟩ := I.after hq
      obtain ⟨t, rfl⟩ := rv
      refine wpAny_pure ?_
      refine wpAny_bind (wpAny_holding (wpAny_pure ?_))
      refine wpAny_bind (wpAny_letGo ?_)
      show wpAny _ _ (if ((n : Nat) : Int) < 0 then _ else _) _ _ _
      rw [if_neg (by omega)]
      show wpAny _ _ (if ((n : Nat) : Int) ≥ 2 ^ 63 then _ else _) _ _ _
      rw [if_neg (by omega)]
      exact wpAny_bind (wpAny_mkInt (wpAny_pure ⟨_, rfl, .int (n : Nat), H', I3.tok _, ⟨_, rfl⟩, q3⟩))
end
def dLenO (c : Str) (G : Con) : AC := fun ds κ R => match ds with
  | [d] => ∃ fs, objOf κ d = some (c, fs) ∧ G [d] κ fun v κ2 => ∃ n : Nat, v = .int (n : Nat) ∧ n ≤ 1000000 ∧ R (.int (n : Nat)) κ2
  | _ => False
theorem co_lenO {K : Frag} {mg : MG} {cn : Str} {C : Addr} {G : Con} (hC : mg cn = some (.ref C)) : CallOp K mg (rLenO C (spOf K mg G)) (dLenO cn G) := by
  intro w vs ds R Q ok r h k
  unfold dLenO at h
  split at h
  · obtain ⟨fs, e1, h⟩ := h
    obtain ⟨v, rfl, rv⟩ := rps1 r
    obtain ⟨a, Ca, dx, us, rfl, hc, ha, rf⟩ := objOf_at ok rv e1
    rw [hC] at hc
    cases hc
    refine ⟨a, dx, us, rfl, ha, ?_⟩
    refine sp_ok ok (.cons rv .nil) h fun d' w' v' hR t2 r2 => ?_
    obtain ⟨n, rfl, hn, hR⟩ := hR
    have e := rp_int r2
    subst e
    exact ⟨n, rfl, hn, k _ w' _ hR t2 r2⟩
  · exact h.elim
section
variable {Θ : TbL} {X : Cx} {C f : Addr} {fd : FuncData} {ps : List Str} {k : Nat} {cn : Str} {G : Con} {e : Expr} {es : List Expr} {ta : AA} {p pos : Pos}
theorem q_lenO (hC : X.mg cn = some (.ref C)) (hm : Meth X.K C "__len__" f) (F : FnOk X.prog X.w X.K X.mg X.base CX0 k f fd ps (spOf X.K (X.mgx Θ) G)) (hr : Room (k + 1) X.A) (hb : Binds X.K fd ps []) (hl : X.mg "len" = none) (ha : QA Θ X (e :: es) ta) (hg : Gl X "len" := by rfl)
    (he : starEach (e :: es) X.env = (false, eval e X.env) :: starEach es X.env := by rfl) (hpl : (backTo pos (starEach es X.env)).any (·.1) = false := by rfl) : QE Θ X (.Call (.Name "len" p) (e :: es) [] pos) (aCB (dLenO cn G) ta) :=
  q_callB (call_lenO hm F hr hb pass0) (co_lenO hC) hl boot_len ha hg (by decide) (by decide) he hpl
end
end PD
set_option Elab.async false
set_option linter.all false
set_option autoImplicit false
set_option maxRecDepth 100000
set_option maxHeartbeats 4000000
/-! PD, part 30: dicts with tuple keys: list(d), d[key]; a & b. -/
namespace PD
open PySem PySem.Spec PyProof.Rows L2
/-! ### list(d) -/
def rListN (wo : World) : List V → Hp → VK → Prop := fun vs H Q => ∃ (a : Addr) (xs : List (NestedKey × Addr × Value)), vs = [.ref a] ∧ H a = some (DicO wo a xs) ∧ xs.length ≤ 1000000 ∧ ∀ p, H p = none → Q (.ref p) (upd H p (.lst (xs.map fun x => V.ref x.2.1)))
theorem call_listN {X : Cx} (hc : X.calm = true) : CallR X (.type "list") (rListN X.w) := by
  intro pins s σ H vs us Q I r h
  obtain ⟨d, ks, rfl, hd, hz, q⟩ := h
  obtain ⟨u, rfl, ru⟩ := vals1 r
  obtain rfl : u = Value.ref d := ru
  obtain ⟨⟨hs, o, es, ep, ho, hx, hdt, he, hn⟩, _, _⟩ := I.hok d _ hd
  have l1 : es.size = ks.length := by
    have := congrArg List.length he
    rw [Array.length_toList, List.length_map] at this
    exact this
  refine PySem.W.kdl_call (kdl_raw hs hx hdt) (I.ok.hd hc) ho (by rw [l1, sizeLine_eq]; omega) fun h' tk acc' c' kp e it => ?_
  have ea : acc'.toList = ks.map fun x => Value.ref x.2.1 := by
    have hl : acc'.toList.length = ks.length := by rw [Array.length_toList, it.1]; exact l1
    apply List.ext_getElem?
    intro j
    rw [List.getElem?_map]
    cases hj : acc'.toList[j]? with
    | none =>
      have h1 := List.getElem?_eq_none_iff.mp hj
      rw [List.getElem?_eq_none (by omega)]
      rfl
    | some v =>
      obtain ⟨en, hen, hv⟩ := it.2 j v (by rw [← Array.getElem?_toList]; exact hj)
      have qe : es.toList[j]? = some en := by rw [Array.getElem?_toList]; exact hen
      rw [he, List.getElem?_map] at qe
      cases hb : ks[j]? with
      | none =>
        rw [hb] at qe
        cases qe
      | some b =>
        rw [hb] at qe
        have e2 := Option.some.inj qe
        rw [hv, ← e2]
        rfl
  have eb : acc'.toList = (ks.map fun x => x.2.1).map Value.ref := by rw [ea, List.map_map]; rfl
  have rv : Vals ((ks.map fun x => x.2.1).map V.ref) acc'.toList := by rw [eb]; exact L2.vals_refs _
  have ev : (ks.map fun x => V.ref x.2.1) = (ks.map fun x => x.2.1).map V.ref := by rw [List.map_map]; rfl
  have hz' : ((ks.map fun x => x.2.1).map V.ref).length ≤ sizeLine := by rw [List.length_map, List.length_map, sizeLine_eq]; omega
  have qq := q s.heap.objs.size (I.hok.fresh (Nat.le_refl _))
  rw [ev] at qq
  refine ⟨.ref s.heap.objs.size, _, I.laid (t' := tk) (o := .lst ((ks.map fun x => x.2.1).map V.ref)) kp (Nat.le_refl _) ?_, rfl, qq⟩
  exact ⟨hz', acc'.toList, c', rv, by rw [Array.toArray_toList]; exact e⟩
def aListN (t : AE) : AA := fun ρ κ RA => t ρ κ fun d κ1 => match d with
  | .cell k => ∃ kvs, κ1[k]? = some (some (.dic kvs)) ∧ kvs.length ≤ 1000000 ∧ RA (kvs.map (·.1)) κ1
  | _ => False
section
variable {Θ : TbL} {X : Cx} {e : Expr} {t : AE} {p pos : Pos}
theorem q_listN (hm : X.mg "list" = none) (he : QE Θ X e t) (hc : X.calm = true) (hg : Gl X "list" := by rfl) (hst : starEach (e :: []) X.env = (false, eval e X.env) :: starEach [] X.env := by rfl) (hpl : (backTo pos (starEach [] X.env)).any (·.1) = false := by rfl) :
    QL Θ X (.Call (.Name "list" p) [e] [] pos) (aListN t) := (pe_callTy (call_listN hc) hg hm boot_list (pa_cons he pa_nil hst) (by decide) (by decide) hst hpl).imp (by
  rintro σ H Q ⟨w, ρ, R, rfl, ok, st, h, k⟩
  refine ⟨w, ρ, _, rfl, ok, st, h, fun d w1 v1 h1 t1 r1 => ?_⟩
  split at h1
  · obtain ⟨kvs, q, hz, hR⟩ := h1
    obtain ⟨a, xs, vs, rfl, ea, ha, h2, h3, h4, h5, h6⟩ := dic_cell t1.ok r1 q
    have hl : xs.length = kvs.length := by
      have := congrArg List.length h2
      rw [List.length_map, List.length_map] at this
      omega
    exact ⟨a, xs, rfl, ha, by omega, fun p hp => new_list t1 h4 hR hp k⟩
  · exact h1.elim)
end
/-! ### d[key] -/
def lookN (kvs : List (D × D)) (d : D) : Option D := (kvs.find? fun p => decide (nkOf p.1 = nkOf d)).map (·.2)
def rGetN (K : Frag) (wo : World) : R2 := fun x y H Q => ∃ (a b : Addr) (k : NestedKey) (xs : List (NestedKey × Addr × Value)) (p : Addr × Value) (v : V), x = .ref a ∧ y = .ref b ∧ H a = some (DicO wo a xs) ∧ Nk K H (.ref b) k ∧ k.depth ≤ 8 ∧ (∀ x ∈ xs, Nk K H (.ref x.2.1) x.1 ∧ x.1.depth ≤ 8) ∧
  atKey xs k = some p ∧ L2.RelV v p.2 ∧ Q v H
section
variable {X : Cx} {o i : Expr} {pos : Pos} {to ti : TE}
theorem pe_getN (hu : X.A.units + 64 < cLine) (ho : PE X o to) (hi : PE X i ti) (hs : NoSl i) : PE X (.Subscript o i pos) (tOp (rGetN X.K X.w) to ti) := by
  refine ⟨fun pins s σ H Q I h => ?_⟩
  refine subD_of PySem.F.slot_dict_getitem.lookup hs (thn (ho.run pins s σ H _ I h) fun u s1 ⟨x, H1, I1, rx, q1⟩ => thn (hi.run pins s1 σ H1 _ I1 q1) fun iv s2 ⟨y, H2, I2, ry, a, b, k, xs, p, v, ex, ey, ha, hk, hd, hx, hp, rv, q2⟩ => ?_)
  subst ex
  subst ey
  obtain rfl : u = Value.ref a := rx
  obtain rfl : iv = Value.ref b := ry
  obtain ⟨h1, m⟩ := dic_at I2 ha hx
  exact ⟨m.typeIs, wpAny_getItem_heap (knd := nestedKind X.prog X.w) (by show X.A.units + 1 + 8 < cLine; omega) ⟨Nk.is I2 hk rfl, hd⟩ m hp ⟨v, H2, I2.tok _, rv, q2⟩⟩
end
def dGetN : A2 := fun d e κ R => match d with
  | .cell j => ∃ kvs ks v, κ[j]? = some (some (.dic kvs)) ∧ nkOf e = some (.tup ks) ∧ (NestedKey.tup ks).depth ≤ 8 ∧ lookN kvs e = some v ∧ R v κ
  | _ => False
theorem get_at {K : Frag} {mg : MG} {w : Wd} {e v : D} {k : NestedKey} (hk : nkOf e = some k) : ∀ {kvs : List (D × D)} {xs : List (NestedKey × Addr × Value)} {vs : List V}, kvs.map (fun p => nkOf p.1) = xs.map (fun x => some x.1) → Vals vs (xs.map (·.2.2)) → Rps K mg w vs (kvs.map (·.2)) → lookN kvs e = some v →
    ∃ p y, atKey xs k = some p ∧ L2.RelV y p.2 ∧ Rp K mg w y v
  | [], _, _, _, _, _, h => by simp [lookN] at h
  | q :: kvs, [], _, h, _, _, _ => by simp at h
  | q :: kvs, x :: xs, vs, h, hv, hr, hl => by
    simp only [List.map_cons, List.cons.injEq] at h
    rw [List.map_cons] at hv hr
    cases hr with
    | @cons y yd ys yds r0 rs =>
      cases hv with
      | cons rv0 rvs =>
        rw [lookN, List.find?_cons, hk, h.1] at hl
        by_cases e1 : x.1 = k
        · rw [decide_eq_true (by rw [e1])] at hl
          cases hl
          refine ⟨x.2, y, ?_, rv0, r0⟩
          rw [atKey, List.find?_cons, decide_eq_true e1]
          rfl
        · rw [decide_eq_false (fun z => e1 (Option.some.inj z))] at hl
          obtain ⟨p, y', h1, h2, h3⟩ := get_at (K := K) (mg := mg) (w := w) hk h.2 rvs rs (by rw [lookN, hk]; exact hl)
          refine ⟨p, y', ?_, h2, h3⟩
          rw [atKey, List.find?_cons, decide_eq_false e1]
          exact h1
theorem o2_getN {K : Frag} {mg : MG} : Op2 K mg (rGetN K mg.wo) dGetN := by
  intro w x y d e R Q ok rx ry h k
  unfold dGetN at h
  split at h
  · obtain ⟨kvs, ks, v, q, hd, hdp, hl, h⟩ := h
    obtain ⟨a, xs, vs, rfl, ea, ha, h2, h3, h4, h5, h6⟩ := dic_cell ok rx q
    have nk := nk_of ry hd
    obtain ⟨b, rfl⟩ : ∃ b, y = .ref b := by cases nk with | tup h _ => exact ⟨_, rfl⟩
    obtain ⟨p, yv, g1, g2, g3⟩ := get_at (K := K) (mg := mg) (w := w) hd h2 h5 h6 hl
    exact ⟨a, b, _, xs, p, yv, rfl, rfl, ha, nk, hdp, fun z hz => ⟨keys_nk h2 h4 z hz, (h3 z hz).1⟩, g1, g2, k _ w _ h (.refl ok) g3⟩
  · exact h.elim
section
variable {Θ : TbL} {X : Cx} {a b : Expr} {t u : AE} {pos : Pos} {k : Nat}
theorem q_getN (hr : Room k X.A) (ha : QE Θ X a t) (hb : QE Θ X b u) (hs : NoSl b := by exact fun _ _ => rfl) : QE Θ X (.Subscript a b pos) (aOp dGetN t u) := (pe_getN hr.units ha hb hs).imp fun _ _ _ h => lift_op o2_getN h
/-! ### bits -/
abbrev dBand : A2 := dII (fun _ _ => True) fun i j => .int (Builtin.bitAnd i j)
theorem q_band (ha : QE Θ X a t) (hb : QE Θ X b u) : QE Θ X (.BinOp a .BitAnd b pos) (aOp dBand t u) := q_op op_and (op2_ii0 fun _ _ _ => .int _) ha hb
end
end PD
set_option Elab.async false
set_option linter.all false
set_option autoImplicit false
set_option maxRecDepth 100000
set_option maxHeartbeats 4000000
/-! PD, part 31: sorted(tuple, reverse=True) of ints; comprehensions over a list that may change, whose turns change nothing. -/
namespace PD
open PySem PySem.Spec PyProof.Rows L2
/-! ### sorted(t, reverse=True), t a tuple of ints -/
def rSortedTR (K : Frag) : List V → List V → Hp → VK → Prop := fun vs zs H Q => ∃ (a : Addr) (ns : List Int), vs = [V.ref a] ∧ zs = [.bl true] ∧ SqT K H a (ns.map V.int) ∧ ns.length ≤ 1000 ∧
  ∀ (ns' : List Int) (p : Addr), ns'.Perm ns → OrdB true ns' → H p = none → Q (.ref p) (upd H p (.lst (ns'.map V.int)))
theorem each_ints : ∀ {us : List Value} {ns : List Int}, IntsAre us ns → PySem.W.EachIs (fun (v : Value) (n : Int) => ∃ t, v = .int n t) us ns
  | _, _, .nil => .nil
  | _, _, .cons n t r => .cons ⟨t, rfl⟩ (each_ints r)
theorem vals_each_ints : ∀ {us : List Value} {ns : List Int}, PySem.W.EachIs (fun (v : Value) (n : Int) => ∃ t, v = .int n t) us ns → Vals (ns.map V.int) us
  | _, _, .nil => .nil
  | _, _, .cons ⟨t, e⟩ r => .cons ⟨t, e⟩ (vals_each_ints r)
theorem cr_sortedTR {X : Cx} (hu : X.A.units + 64 < cLine) : CallRK X (.builtin "sorted") [Str.ofString "reverse"] (rSortedTR X.K) := by
  intro pins s σ H vs zs us ws Q I r rz h
  obtain ⟨a, ns, rfl, rfl, hs, hz, q⟩ := h
  obtain rfl := Vals.ref1 r
  obtain ⟨w1, rfl, e1⟩ := vals1 rz
  obtain rfl : w1 = Value.bool true := e1
  obtain ⟨its, rv, ⟨o, ho, hc, n, hd⟩, _⟩ := I.tuple hs
  have hi := rv.ints
  have hl : its.length = ns.length := by rw [← rv.length, List.length_map]
  have hL : its.length ≤ sizeLine := by rw [sizeLine_eq]; omega
  show wpAny _ _ (call (.builtin "sorted") [.ref a] [(Str.ofString "reverse", .bool true)]) _ _ _
  refine call_function_entry_kw kind_sorted plain_sorted entry_sorted (PyProof.Rows.args_sorted_rev _ _) ?_
  unfold Builtin.«sorted»
  refine wpAny_bind (m := checkCount "sorted" 1 1 _) (wpAny_pure ?_)
  refine wpAny_bind (wpAny_collect_seq a (.inr rfl) ho hc hd (fun h1 kp => ?_) (by rw [List.size_toArray]; exact hL))
  rw [show its.toArray.toList = its by simp]
  refine wpAny_bind (wpAny_newList ?_ hL)
  have hL0 : (h1.push { cls := .type "list", data := .seq its.toArray }).get? h1.objs.size = some (seqObj "list" its.toArray 0) := Heap.get?_push_size _ rfl
  have ei := each_ints hi
  refine wpAny_bind (wpAny_holding (PySem.W.list_sort_rev_data (s := { s with heap := h1.push { cls := .type "list", data := .seq its.toArray } }) (R := fun (v : Value) (n : Int) => ∃ t, v = .int n t) (enc := fun n : Int => PyData.int n) (b := true) hL0 ei ?_ ?_ ?_ (by rw [← hl]; exact hL) ?_ fun out lo eo => ?_))
  · refine ei.mono fun v n e => ?_
    obtain ⟨t, rfl⟩ := e
    exact ⟨[], .int _ _, by simp⟩
  · exact PySem.W.AllAlike.of fun _ _ => by simp [PySem.W.alike]
  · exact PySem.W.Sortable.others fun _ => ⟨by simp, by simp⟩
  · intro b _
    have : (PyData.int b).depth = 0 := by simp [PyData.depth]
    rw [this]
    show X.A.units + 1 + 1 + 0 < cLine
    omega
  · obtain ⟨e, he⟩ := PyProof.Rows.sortedHeap_at (out := out.toArray) hL0
    have I1 := I.kept (t' := s.toks) kp
    have old : ∀ b o, h1.get? b = some o → (PyProof.Rows.sortedHeap (h1.push { cls := .type "list", data := .seq its.toArray }) h1.objs.size its out.toArray).get? b = some o := fun b o eb1 => by
      have lt := Heap.lt_size eb1
      rw [PyProof.Rows.sortedHeap_old (Nat.ne_of_lt lt) (by rw [Heap.size_push]; exact Nat.lt_succ_of_lt lt)]
      exact Heap.get?_push_of_some _ eb1
    have hperm := List.mergeSort_perm ns (PySem.W.dataLe true fun n : Int => PyData.int n)
    have T := PySem.W.sortLe_total (PyProof.Rows.listOrd PyProof.Rows.itemOrd) true fun b : Int => PySem.W.keyToks (PyData.int b)
    have hpw : (ns.mergeSort (PySem.W.dataLe true fun n : Int => PyData.int n)).Pairwise fun a b => PySem.W.dataLe true (fun n : Int => PyData.int n) a b = true := List.pairwise_mergeSort (le := PySem.W.dataLe true fun n : Int => PyData.int n) T.trans (fun a b => by
      rw [Bool.or_eq_true]
      exact T.total a b) ns
    have hord : OrdB true (ns.mergeSort (PySem.W.dataLe true fun n : Int => PyData.int n)) := hpw.imp fun {x y} h => by
      rw [PySem.W.dataGe_int (fun n : Int => n)] at h
      exact of_decide_eq_true h
    generalize ns.mergeSort (PySem.W.dataLe true fun n : Int => PyData.int n) = ns' at *
    have hlen : (ns'.map V.int).length ≤ sizeLine := by rw [List.length_map, hperm.length_eq, sizeLine_eq]; omega
    exact wpAny_pure ⟨_, rfl, .ref _, upd H h1.objs.size (.lst (ns'.map V.int)), I1.laid (t' := s.toks) old (Nat.le_refl _) ⟨hlen, out, e, vals_each_ints eo, he⟩, rfl, q _ _ hperm hord (I1.hok.fresh (Nat.le_refl _))⟩
section
variable {Θ : TbL} {X : Cx} {e : Expr} {t : AE} {pos p kpos p2 : Pos} {k kd : Nat}
/-- of a tuple -/
def aSortTR (t : AE) : AE := fun ρ κ R => t ρ κ fun d κ1 => ∃ ns : List Int, d = .tup (ns.map D.int) ∧ ns.length ≤ 1000 ∧ ∀ ns' : List Int, ns'.Perm ns → OrdB true ns' → R (.lst (ns'.map D.int)) κ1
theorem q_sortTR (hr : Room k X.A) (hm : X.mg "sorted" = none) (he : QE Θ X e t) (hg : Gl X "sorted" := by rfl) (hst0 : starEach [e] X.env = (false, eval e X.env) :: starEach [] X.env := by rfl)
    (hst : backTo pos (starEach [e] X.env) = (false, eval e X.env) :: backTo pos (starEach [] X.env) := by rfl) (hpl : (backTo pos (starEach [e] X.env)).any (·.1) = false := by rfl) :
    QE Θ X (.Call (.Name "sorted" p) [e] [⟨some "reverse", .Constant (.bool true) kd p2, kpos⟩] pos) (aSortTR t) :=
  (pe_callBK (kws := [⟨some "reverse", .Constant (.bool true) kd p2, kpos⟩]) (cr_sortedTR hr.units) hg hm boot_sorted (pa_cons he pa_nil hst0) (pk_cons pe_bl pk_nil) (by decide) (by decide) hst hpl rfl rfl rfl).imp (by
  rintro σ H Q ⟨w, ρ, R, rfl, ok, st, h, kk⟩
  refine ⟨w, ρ, _, rfl, ok, st, h, fun d w1 v1 h1 t1 r1 => ?_⟩
  obtain ⟨ns, rfl, hz, h1⟩ := h1
  obtain ⟨a, xs, rfl, hs, rs⟩ := rp_tup r1
  have ex := rs.ints_inv
  subst ex
  refine ⟨a, ns, rfl, rfl, hs, hz, fun ns' p hp ho hn => ?_⟩
  obtain ⟨t2, r2⟩ := lst_new t1.ok hn (Rps.ints ns')
  exact kk _ (w1.put p _) _ (h1 ns' hp ho) (t1.trans t2) r2)
end
end PD
set_option Elab.async false
set_option linter.all false
set_option autoImplicit false
set_option maxRecDepth 100000
set_option maxHeartbeats 4000000
/-! PD, part 32: comprehensions over a list that may change, whose turns change nothing. -/
namespace PD
open PySem PySem.Spec PyProof.Rows L2
def WalksC (K : Frag) (mg : MG) (J : It) (w : Wd) (ds : List D) : Prop := ∀ w1, Gr w w1 → WOk K mg w1 → w1.ce = w.ce → (J.stop ds.length w1.H) ∧ ∀ i d, ds[i]? = some d → J.go i w1.H ∧ ∀ x H', J.yld i w1.H x H' →
  ∃ w2, w2.H = H' ∧ w2.ce = w1.ce ∧ To K mg w1 w2 ∧ Rp K mg w2 x d
def lIC (K : Frag) (mg : MG) (t : AA) : TI := fun σ H R => ∃ (w : Wd) (ρ : Rho) (P : List D → Cs → Prop), w.H = H ∧ WOk K mg w ∧ StOk K mg w ρ σ ∧ t ρ w.ce P ∧
  ∀ ds w' J, P ds w'.ce → To K mg w w' → WalksC K mg J w' ds → R J w'.H
abbrev QIC (Θ : TbL) (X : Cx) (tg iter : Expr) (t : AA) : Prop := PI X tg iter (lIC X.K (X.mgx Θ) t)
/-- as compL; a turn must leave the cells as they are -/
def compP (g : AG) (tt : AT) (te : AE) (ρ : Rho) : List D → List D → Cs → (List D → Cs → Prop) → Prop
  | [], acc, κ, R => R acc κ
  | d :: ds, acc, κ, R => g d ρ κ fun ρ2 κ2 => tt ρ2 κ2 fun b κ3 => if b = true then te ρ2 κ3 fun y κ4 => κ4 = κ ∧ acc.length < 16777216 ∧ compP g tt te ρ ds (acc ++ [y]) κ4 R else κ3 = κ ∧ compP g tt te ρ ds acc κ3 R
def aCompP (src : AA) (g : AG) (tt : AT) (te : AE) (vs : List Nat) : AA := fun ρ κ R => src ρ κ fun ds κ' => compP g tt te (awipe ρ vs) ds [] κ' R
theorem lift_compP {K : Frag} {mg : MG} {src : AA} {g : TG} {ag : AG} {vs us : List Nat} {tt : AT} {te : AE} (hg : GOk K mg g ag vs) (hv : ∀ v ∈ vs, v ∈ us) {σ : L2.St} {H : Hp} {Q : VK} (h : lL K mg (aCompP src ag tt te us) σ H Q) :
    tLc (lIC K mg src) g (lT K mg tt) (lE K mg te) us σ H Q := by
  obtain ⟨w, ρ, R, rfl, ok, st, h, k⟩ := h
  refine ⟨w, ρ, _, rfl, ok, st, h, fun ds w1 J h1 t1 wk => ?_⟩
  intro D0 hD
  refine ⟨fun i m H' => ∃ w2 xs acc, w2.H = H' ∧ Gr w1 w2 ∧ WOk K mg w2 ∧ w2.hid = (D0, .lst xs) :: w1.hid ∧ w2.ce = w1.ce ∧ Rps K mg w2 xs acc ∧ i + m = ds.length ∧ compP ag tt te (awipe ρ us) (ds.drop i) acc w2.ce R,
    ⟨ds.length, w1.hide D0 (.lst []), [], [], rfl, gr_hide hD, ok_hide t1.ok hD trivial, rfl, rfl, .nil, Nat.zero_add _, h1⟩, ?_⟩
  rintro i m H2 ⟨w2, xs, acc, rfl, g2, ok2, hh2, c2, r2, em, h2⟩
  obtain ⟨stop, go⟩ := wk w2 g2 ok2 c2
  by_cases hi : i < ds.length
  · obtain ⟨g1, y⟩ := go i ds[i] (List.getElem?_eq_getElem hi)
    rw [List.drop_eq_getElem_cons hi] at h2
    refine .inr ⟨g1, fun H' => ∃ w3 xs acc, w3.H = H' ∧ Gr w1 w3 ∧ WOk K mg w3 ∧ w3.hid = (D0, .lst xs) :: w1.hid ∧ w3.ce = w1.ce ∧ Rps K mg w3 xs acc ∧ compP ag tt te (awipe ρ us) (ds.drop (i + 1)) acc w3.ce R,
      fun H' ⟨w3, xs, acc, e, g3, ok3, hh3, c3, r3, h3⟩ => ⟨m - 1, by omega, w3, xs, acc, e, g3, ok3, hh3, c3, r3, by omega, h3⟩, fun x H' hy => ?_⟩
    obtain ⟨w3, rfl, ec, t3, r3⟩ := y x H' hy
    have h2' : ag ds[i] (awipe ρ us) w3.ce fun ρ2 κ2 => tt ρ2 κ2 fun b κ3 => if b = true then te ρ2 κ3 fun y κ4 => κ4 = w2.ce ∧ acc.length < 16777216 ∧ compP ag tt te (awipe ρ us) (ds.drop (i + 1)) (acc ++ [y]) κ4 R else κ3 = w2.ce ∧ compP ag tt te (awipe ρ us) (ds.drop (i + 1)) acc κ3 R := by
      rw [ec]
      exact h2
    have s3 : StOk K mg w3 (awipe ρ us) (wipe σ us) := (st_wipe st us).mono ((t1.gr.trans g2).trans t3.gr)
    refine hg w3 x ds[i] _ _ _ _ t3.ok s3 r3 h2' fun ρ4 σ4 w4 h4 t4 s4 a4 => ⟨wipe_agree a4 hv, ?_⟩
    refine ⟨w4, ρ4, _, rfl, t4.ok, s4, h4, fun b w5 h5 t5 => ?_⟩
    have t35 := (t3.trans t4).trans t5
    cases b with
    | false =>
      rw [if_neg Bool.false_ne_true] at h5
      refine iteF ?_
      exact ⟨w5, xs, acc, rfl, g2.trans t35.gr, t35.ok, t35.hid.trans hh2, h5.1.trans c2, r2.mono t35.gr, h5.2⟩
    | true =>
      rw [if_pos rfl] at h5
      refine iteT ?_
      refine ⟨w5, ρ4, _, rfl, t5.ok, s4.mono t5.gr, h5, fun d6 w6 v6 h6 t6 r6 => ?_⟩
      have t36 := t35.trans t6
      have hh6 : w6.hid = (D0, .lst xs) :: w1.hid := t36.hid.trans hh2
      have r2' := r2.mono t36.gr
      refine ⟨xs, (t36.ok.hidH D0 _ (by rw [hh6]; exact List.mem_cons_self)).1, by rw [r2'.length, sizeLine_eq]; exact h6.2.1, ?_⟩
      have g7 := gr_rehide (o := .lst (xs ++ [v6])) t36.ok hh6
      refine ⟨w6.rehide w1.hid D0 (.lst (xs ++ [v6])), xs ++ [v6], acc ++ [d6], rfl, (g2.trans t36.gr).trans g7, ok_rehide t36.ok hh6 trivial, rfl, h6.1.trans c2, (r2'.append (.cons r6 .nil)).mono g7, h6.2.2⟩
  · have e : i = ds.length := by omega
    subst e
    rw [List.drop_length] at h2
    exact .inl ⟨stop, k acc w2 D0 xs h2 (t1.gr.trans g2) (by rw [hh2, t1.hid]) ok2 r2⟩
section
variable {Θ : TbL} {X : Cx} {elt tg iter : Expr} {ifs : List Expr} {scope : Scope} {own : List (Str × Nat)} {pos : Pos} {src : AA} {ag : AG} {vs : List Nat} {tt : AT} {te : AE}
theorem q_compP (own : List (Str × Nat)) (hc : X.calm = true) (hN : X.N.Nodup) (hi : QIC Θ X tg iter src) (ok : blkC X.N X.env.scope scope own = true)
    (hg : ∃ g, (∀ (s : Shared) (H : Hp) (C : Addr) (cl : List (Str × Addr)) (fp : List Addr), PG (X.blk s H scope (compEnvC scope cl C X.env) fp) tg g) ∧ GOk X.K (X.mgx Θ) g ag vs)
    (ht : ∀ (s : Shared) (H : Hp) (C : Addr) (cl : List (Str × Addr)) (fp : List Addr), QTs Θ (X.blk s H scope (compEnvC scope cl C X.env) fp) ifs tt)
    (he : ∀ (s : Shared) (H : Hp) (C : Addr) (cl : List (Str × Addr)) (fp : List Addr), QE Θ (X.blk s H scope (compEnvC scope cl C X.env) fp) elt te) (hv : vs.all (fun v => (own.map (·.2)).contains v) = true := by decide)
    (hs : ∀ x, foldedSetIterable iter X.env x = pure x := by intro _; rfl) : QL Θ X (.ListComp elt [⟨tg, iter, ifs, 0⟩] scope pos) (aCompP src ag tt te (own.map (·.2))) := by
  obtain ⟨g, p, o⟩ := hg
  refine (pe_lc hc hN hi (blkOk_by ok) p ht he hs).imp fun _ _ _ h => lift_compP o (fun v hm => ?_) h
  have q := List.all_eq_true.mp hv v hm
  simpa using q
theorem qs_setCompP {y : Str} {py spos : Pos} (i : Nat) (own : List (Str × Nat)) (hc : X.calm = true) (hN : X.N.Nodup) (hi : QIC Θ X tg iter src) (ok : blkC X.N X.env.scope scope own = true)
    (hg : ∃ g, (∀ (s : Shared) (H : Hp) (C : Addr) (cl : List (Str × Addr)) (fp : List Addr), PG (X.blk s H scope (compEnvC scope cl C X.env) fp) tg g) ∧ GOk X.K (X.mgx Θ) g ag vs)
    (ht : ∀ (s : Shared) (H : Hp) (C : Addr) (cl : List (Str × Addr)) (fp : List Addr), QTs Θ (X.blk s H scope (compEnvC scope cl C X.env) fp) ifs tt)
    (he : ∀ (s : Shared) (H : Hp) (C : Addr) (cl : List (Str × Addr)) (fp : List Addr), QE Θ (X.blk s H scope (compEnvC scope cl C X.env) fp) elt te)
    (hsw : swapsWith (.ListComp elt [⟨tg, iter, ifs, 0⟩] scope pos) (some (.Name y py)) spos.line X.env = pure true)
    (hv : vs.all (fun v => (own.map (·.2)).contains v) = true := by decide) (hy : X.N[i]? = some y := by rfl) (hyl : X.env.scope.names.lookup y = some .local := by rfl)
    (hs : ∀ x, foldedSetIterable iter X.env x = pure x := by intro _; rfl) : PS X (.Assign [.Name y py] (.ListComp elt [⟨tg, iter, ifs, 0⟩] scope pos) spos) (tAsg (lL X.K (X.mgx Θ) (aCompP src ag tt te (own.map (·.2)))) (gName i)) := by
  obtain ⟨g, p, o⟩ := hg
  refine (ps_setLc hc hN hy hyl hsw hi (blkOk_by ok) p ht he hs).imp fun _ _ _ h => lift_compP o (fun v hm => ?_) h
  have q := List.all_eq_true.mp hv v hm
  simpa using q
end
theorem walksC_enum {K : Frag} {mg : MG} {w : Wd} {a : Addr} {ds : List D} (h : ∀ w', Gr w w' → WOk K mg w' → w'.ce = w.ce → ∃ xs, SqL K w'.H a xs ∧ Rps K mg w' xs ds) : WalksC K mg (Ite K a) w (enumD 0 ds) := fun w1 g ok ec => by
  obtain ⟨xs, hx, r⟩ := h w1 g ok ec
  refine ⟨⟨xs, hx, by rw [r.length, enumD_length]; exact Nat.le_refl _⟩, fun i d e => ?_⟩
  rw [enumD_get, Nat.zero_add] at e
  obtain ⟨d0, e0, rfl⟩ := Option.map_eq_some_iff.mp e
  obtain ⟨v, e1, r1⟩ := r.get e0
  refine ⟨⟨xs, v, hx, e1⟩, fun x H' y => ?_⟩
  obtain ⟨T, z, rfl, hT, rfl, y⟩ := y
  have e2 := y xs hx
  rw [e1] at e2
  cases e2
  obtain ⟨t2, r2⟩ := tup_new (xs := [.int (i : Nat), v]) (ds := [.int (i : Nat), d0]) ok hT (.cons (.int _) (.cons r1 .nil))
  exact ⟨w1.put T (.tup [.int (i : Nat), v]), rfl, rfl, t2, r2⟩
/-- enumerate(c), c a list that may change -/
def aEnumC (ta : AA) : AA := fun ρ κ R => ta ρ κ fun ds κ' => ∃ k xs, ds = [.cell k] ∧ κ'[k]? = some (some (.lst xs)) ∧ R (enumD 0 xs) κ'
section
variable {Θ : TbL} {X : Cx} {e : Expr} {ta : AA} {p pos tpos : Pos}
theorem qi_enumC {elts : List Expr} {kk : Nat} (hm : X.mg "enumerate" = none) (ha : QA Θ X [e] ta) (hg : Gl X "enumerate" := by rfl) (hs : starEach [e] X.env = [(false, eval e X.env)] := by rfl) : QIC Θ X (.Tuple elts kk tpos) (.Call (.Name "enumerate" p) [e] [] pos) (aEnumC ta) := (pi_enum hg hm ha hs).imp (by
  rintro σ H R ⟨w, ρ, P, rfl, ok, st, h, k⟩
  refine ⟨w, ρ, _, rfl, ok, st, h, fun ds w1 vs h1 t1 r1 => ?_⟩
  obtain ⟨c, xs, rfl, hk, h1⟩ := h1
  obtain ⟨v, rfl, rv⟩ := rps1 r1
  obtain ⟨a, us, rfl, ea, ha, ru⟩ := cell_at t1.ok rv hk
  refine ⟨a, us, rfl, .of ha, k _ w1 _ h1 t1 (walksC_enum fun w2 g ok2 ec => ?_)⟩
  obtain ⟨b, us2, eb, ea2, hb, rb⟩ := cell_at ok2 (rv.mono g) (by rw [ec]; exact hk)
  cases eb
  exact ⟨us2, .of hb, rb⟩)
end
section
variable {ρ : Rho} {κ : Cs} {RA : List D → Cs → Prop} {ta : AA} {g : AG} {tt : AT} {te : AE}
@[simp] theorem e_compP {src : AA} {vs : List Nat} : aCompP src g tt te vs ρ κ RA ↔ src ρ κ fun ds κ' => compP g tt te (awipe ρ vs) ds [] κ' RA := .rfl
@[simp] theorem e_enumC : aEnumC ta ρ κ RA ↔ ta ρ κ fun ds κ' => ∃ k xs, ds = [.cell k] ∧ κ'[k]? = some (some (.lst xs)) ∧ RA (enumD 0 xs) κ' := .rfl
/-- a comprehension with a test, whose turns change nothing -/
theorem compP_filt {α : Type} {xs : List α} {a b : α → D} (p : α → Bool) (hn : xs.length ≤ 16777216)
    (hs : ∀ x, x ∈ xs → ∀ (Z : D → Cs → Prop) (Y : Cs → Prop), (p x = true → Z (b x) κ) → (p x = false → Y κ) → g (a x) ρ κ fun ρ2 κ2 => tt ρ2 κ2 fun c κ3 => if c = true then te ρ2 κ3 Z else Y κ3)
    (he : RA ((xs.filter p).map b) κ) : compP g tt te ρ (xs.map a) [] κ RA := by
  have key : ∀ (ys : List α) (acc : List D), (∀ x ∈ ys, x ∈ xs) → acc.length + ys.length ≤ 16777216 → RA (acc ++ (ys.filter p).map b) κ → compP g tt te ρ (ys.map a) acc κ RA := by
    intro ys
    induction ys with
    | nil =>
      intro acc _ _ h
      simpa [compP] using h
    | cons y ys ih =>
      intro acc hm hl h
      rw [List.length_cons] at hl
      refine hs y (hm y (by simp)) _ _ (fun q => ⟨rfl, by omega, ?_⟩) fun q => ⟨rfl, ?_⟩
      · refine ih _ (fun x hx => hm x (by simp [hx])) (by rw [List.length_append]; simp; omega) ?_
        rw [List.filter_cons, if_pos q, List.map_cons] at h
        rw [List.append_assoc]
        exact h
      · refine ih _ (fun x hx => hm x (by simp [hx])) (by omega) ?_
        rw [List.filter_cons, if_neg (by rw [q]; decide)] at h
        exact h
  exact key xs [] (fun _ h => h) (by simpa using hn) (by simpa using he)
end
end PD
set_option Elab.async false
set_option linter.all false
set_option autoImplicit false
set_option maxRecDepth 100000
set_option maxHeartbeats 4000000
/-! PD, part 33: three names at once; unfolding of the later readings. -/
namespace PD
open PySem PySem.Spec PyProof.Rows L2
def aPar3 (i j l : Nat) (ta : AA) : AS := fun A ρ κ => ta ρ κ fun ds κ' => ∃ d e f, ds = [d, e, f] ∧ A.nx (((ρ.set i (some d)).set j (some e)).set l (some f)) κ'
section
variable {Θ : TbL} {X : Cx} {ta : AA} {x y z : Str} {a b c : Expr} {px py pz pt pos : Pos} {kt k2 pt2}
theorem qs_par3 (i j l : Nat) (hc : X.calm = true) (hN : X.N.Nodup) (ha : QA Θ X [a, b, c] ta) (hi : X.N[i]? = some x := by rfl) (hj : X.N[j]? = some y := by rfl) (hl : X.N[l]? = some z := by rfl) (hij : i ≠ j := by decide) (hil : i ≠ l := by decide) (hjl : j ≠ l := by decide)
    (hx : X.env.scope.names.lookup x = some .local := by rfl) (hy : X.env.scope.names.lookup y = some .local := by rfl) (hz : X.env.scope.names.lookup z = some .local := by rfl)
    (hw : swappedStores [.Tuple [.Name x px, .Name y py, .Name z pz] kt pt] (.Tuple [a, b, c] k2 pt2) X.env = pure (some [x, y, z]) := by rfl)
    (hs : swapsWithSole [.Tuple [.Name x px, .Name y py, .Name z pz] kt pt] (.Tuple [a, b, c] k2 pt2) pos.line X.env = pure false := by rfl) :
    QS Θ X (.Assign [.Tuple [.Name x px, .Name y py, .Name z pz] kt pt] (.Tuple [a, b, c] k2 pt2) pos) (aPar3 i j l ta) :=
  (ps_par3 hc hN hi hj hl hij hil hjl hx hy hz ha hw hs).imp (by
    rintro E σ H ⟨w, ρ, A, rfl, ok, st, h, l0⟩
    refine ⟨w, ρ, _, rfl, ok, st, h, fun ds w' vs hR t r => ?_⟩
    obtain ⟨d, e, f, rfl, hR⟩ := hR
    cases r with
    | cons r1 rs =>
      obtain ⟨u2, u3, rfl, r2, r3⟩ := rps2 rs
      exact ⟨_, u2, u3, rfl, l0.nx _ w' _ hR t (st_set (st_set (st_set (st.mono t.gr) i r1) j r2) l r3)⟩)
end
section
variable {ρ : Rho} {κ : Cs} {R : D → Cs → Prop} {RA : List D → Cs → Prop} {t : AE} {ta : AA} {A : AEnds}
@[simp] theorem e_par3 {i j l : Nat} : aPar3 i j l ta A ρ κ ↔ ta ρ κ fun ds κ' => ∃ d e f, ds = [d, e, f] ∧ A.nx (((ρ.set i (some d)).set j (some e)).set l (some f)) κ' := .rfl
def listNK (d : D) (κ1 : Cs) (RA : List D → Cs → Prop) : Prop := match d with
  | .cell k => ∃ kvs, κ1[k]? = some (some (.dic kvs)) ∧ kvs.length ≤ 1000000 ∧ RA (kvs.map (·.1)) κ1
  | _ => False
@[simp] theorem e_listN : aListN t ρ κ RA ↔ t ρ κ fun d κ1 => listNK d κ1 RA := .rfl
@[simp] theorem listNK_cell {k : Nat} : listNK (.cell k) κ RA ↔ ∃ kvs, κ[k]? = some (some (.dic kvs)) ∧ kvs.length ≤ 1000000 ∧ RA (kvs.map (·.1)) κ := .rfl
def sortTRK (d : D) (κ1 : Cs) (R : D → Cs → Prop) : Prop := ∃ ns : List Int, d = .tup (ns.map D.int) ∧ ns.length ≤ 1000 ∧ ∀ ns' : List Int, ns'.Perm ns → OrdB true ns' → R (.lst (ns'.map D.int)) κ1
@[simp] theorem e_sortTR : aSortTR t ρ κ R ↔ t ρ κ fun d κ1 => sortTRK d κ1 R := .rfl
@[simp] theorem sortTRK_tI {ns : List Int} : sortTRK (tI ns) κ R ↔ ns.length ≤ 1000 ∧ ∀ ns' : List Int, ns'.Perm ns → OrdB true ns' → R (.lst (ns'.map D.int)) κ := by
  constructor
  · rintro ⟨ms, e, h⟩
    have := tI_inj (show tI ns = tI ms from e)
    subst this
    exact h
  · intro h
    exact ⟨_, rfl, h⟩
end
end PD
set_option Elab.async false
set_option linter.all false
set_option maxRecDepth 100000
set_option maxHeartbeats 4000000
/-! PD, part 36: comprehensions with two for. -/
namespace PD
open PySem PySem.Spec PyProof.Rows L2
def compL2 (g : AG) (tt : AT) (src1 : AA) (g1 : AG) (tt1 : AT) (te : AE) (us1 : List Nat) (ρ : Rho) : List D → List D → Cs → (List D → Cs → Prop) → Prop
  | [], acc, κ, R => R acc κ
  | d :: ds, acc, κ, R => g d ρ κ fun ρ2 κ2 => tt ρ2 κ2 fun b κ3 => if b = true then src1 ρ2 κ3 fun ds1 κ4 => compL g1 tt1 te (awipe ρ2 us1) ds1 acc κ4 fun acc' κ5 => compL2 g tt src1 g1 tt1 te us1 ρ ds acc' κ5 R else compL2 g tt src1 g1 tt1 te us1 ρ ds acc κ3 R
def aComp2 (src : AA) (g : AG) (tt : AT) (src1 : AA) (g1 : AG) (tt1 : AT) (te : AE) (us us1 : List Nat) : AA := fun ρ κ R => src ρ κ fun ds κ' => compL2 g tt src1 g1 tt1 te us1 (awipe ρ us) ds [] κ' R
theorem lift_comp2 {K : Frag} {mg : MG} {src src1 : AA} {g g1 : TG} {ag ag1 : AG} {vs vs1 us us1 : List Nat} {tt tt1 : AT} {te : AE} (hg : GOk K mg g ag vs) (hv : ∀ v ∈ vs, v ∈ us) (hg1 : GOk K mg g1 ag1 vs1) (hv1 : ∀ v ∈ vs1, v ∈ us1) {σ : L2.St} {H : Hp} {Q : VK} (h : lL K mg (aComp2 src ag tt src1 ag1 tt1 te us us1) σ H Q) :
    tLc2 (lI K mg src) g (lT K mg tt) (lI K mg src1) g1 (lT K mg tt1) (lE K mg te) us us1 σ H Q := by
  obtain ⟨w, ρ, R, rfl, ok, st, h, k⟩ := h
  refine ⟨w, ρ, _, rfl, ok, st, h, fun ds w1 J h1 t1 wk => ?_⟩
  intro D0 hD
  refine ⟨fun i m H' => ∃ w2 xs acc, w2.H = H' ∧ Gr w1 w2 ∧ WOk K mg w2 ∧ w2.hid = (D0, .lst xs) :: w1.hid ∧ Rps K mg w2 xs acc ∧ i + m = ds.length ∧ compL2 ag tt src1 ag1 tt1 te us1 (awipe ρ us) (ds.drop i) acc w2.ce R,
    ⟨ds.length, w1.hide D0 (.lst []), [], [], rfl, gr_hide hD, ok_hide t1.ok hD trivial, rfl, .nil, Nat.zero_add _, h1⟩, ?_⟩
  rintro i m H2 ⟨w2, xs, acc, rfl, g2, ok2, hh2, r2, em, h2⟩
  obtain ⟨stop, go⟩ := wk w2 g2 ok2
  by_cases hi : i < ds.length
  · obtain ⟨g1', y⟩ := go i ds[i] (List.getElem?_eq_getElem hi)
    rw [List.drop_eq_getElem_cons hi] at h2
    refine .inr ⟨g1', fun H' => ∃ w3 xs acc, w3.H = H' ∧ Gr w1 w3 ∧ WOk K mg w3 ∧ w3.hid = (D0, .lst xs) :: w1.hid ∧ Rps K mg w3 xs acc ∧ compL2 ag tt src1 ag1 tt1 te us1 (awipe ρ us) (ds.drop (i + 1)) acc w3.ce R,
      fun H' ⟨w3, xs, acc, e, g3, ok3, hh3, r3, h3⟩ => ⟨m - 1, by omega, w3, xs, acc, e, g3, ok3, hh3, r3, by omega, h3⟩, fun x H' hy => ?_⟩
    obtain ⟨w3, rfl, ec, t3, r3⟩ := y x H' hy
    have h2' : ag ds[i] (awipe ρ us) w3.ce fun ρ2 κ2 => tt ρ2 κ2 fun b κ3 => if b = true then src1 ρ2 κ3 fun ds1 κ4 => compL ag1 tt1 te (awipe ρ2 us1) ds1 acc κ4 fun acc' κ5 => compL2 ag tt src1 ag1 tt1 te us1 (awipe ρ us) (ds.drop (i + 1)) acc' κ5 R else compL2 ag tt src1 ag1 tt1 te us1 (awipe ρ us) (ds.drop (i + 1)) acc κ3 R := by
      rw [ec]
      exact h2
    have s3 : StOk K mg w3 (awipe ρ us) (wipe σ us) := (st_wipe st us).mono ((t1.gr.trans g2).trans t3.gr)
    refine hg w3 x ds[i] _ _ _ _ t3.ok s3 r3 h2' fun ρ4 σ4 w4 h4 t4 s4 a4 => ⟨wipe_agree a4 hv, ?_⟩
    refine ⟨w4, ρ4, _, rfl, t4.ok, s4, h4, fun b w5 h5 t5 => ?_⟩
    have t35 := (t3.trans t4).trans t5
    have hh5 : w5.hid = (D0, .lst xs) :: w1.hid := t35.hid.trans hh2
    cases b with
    | false =>
      rw [if_neg Bool.false_ne_true] at h5
      refine iteF ?_
      exact ⟨w5, xs, acc, rfl, g2.trans t35.gr, t35.ok, hh5, r2.mono t35.gr, h5⟩
    | true =>
      rw [if_pos rfl] at h5
      refine iteT ?_
      refine ⟨w5, ρ4, _, rfl, t5.ok, s4.mono t5.gr, h5, fun ds1 w6 J1 h6 t6 wk1 => ?_⟩
      have t36 := t35.trans t6
      have hh6 : w6.hid = (D0, .lst xs) :: w1.hid := t6.hid.trans hh5
      refine ⟨fun j k H' => ∃ w7 xs acc, w7.H = H' ∧ Gr w6 w7 ∧ WOk K mg w7 ∧ w7.hid = (D0, .lst xs) :: w1.hid ∧ Rps K mg w7 xs acc ∧ j + k = ds1.length ∧ compL ag1 tt1 te (awipe ρ4 us1) (ds1.drop j) acc w7.ce fun acc' κ5 => compL2 ag tt src1 ag1 tt1 te us1 (awipe ρ us) (ds.drop (i + 1)) acc' κ5 R,
        ⟨ds1.length, w6, xs, acc, rfl, .refl _, t36.ok, hh6, r2.mono t36.gr, Nat.zero_add _, h6⟩, ?_⟩
      rintro j k' H7 ⟨w7, xs7, acc7, rfl, g7, ok7, hh7, r7, em7, h7⟩
      obtain ⟨stop1, go1⟩ := wk1 w7 g7 ok7
      by_cases hj : j < ds1.length
      · obtain ⟨g8, y8⟩ := go1 j ds1[j] (List.getElem?_eq_getElem hj)
        rw [List.drop_eq_getElem_cons hj] at h7
        refine .inr ⟨g8, fun H' => ∃ w8 xs acc, w8.H = H' ∧ Gr w6 w8 ∧ WOk K mg w8 ∧ w8.hid = (D0, .lst xs) :: w1.hid ∧ Rps K mg w8 xs acc ∧ compL ag1 tt1 te (awipe ρ4 us1) (ds1.drop (j + 1)) acc w8.ce fun acc' κ5 => compL2 ag tt src1 ag1 tt1 te us1 (awipe ρ us) (ds.drop (i + 1)) acc' κ5 R,
          fun H' ⟨w8, xs, acc, e, g8, ok8, hh8, r8, h8⟩ => ⟨k' - 1, by omega, w8, xs, acc, e, g8, ok8, hh8, r8, by omega, h8⟩, fun x1 H' hy1 => ?_⟩
        obtain ⟨w8, rfl, ec8, t8, r8⟩ := y8 x1 H' hy1
        have h7' : ag1 ds1[j] (awipe ρ4 us1) w8.ce fun ρ2 κ2 => tt1 ρ2 κ2 fun b κ3 => if b = true then te ρ2 κ3 fun y κ4 => acc7.length < 16777216 ∧ compL ag1 tt1 te (awipe ρ4 us1) (ds1.drop (j + 1)) (acc7 ++ [y]) κ4 fun acc' κ5 => compL2 ag tt src1 ag1 tt1 te us1 (awipe ρ us) (ds.drop (i + 1)) acc' κ5 R else compL ag1 tt1 te (awipe ρ4 us1) (ds1.drop (j + 1)) acc7 κ3 fun acc' κ5 => compL2 ag tt src1 ag1 tt1 te us1 (awipe ρ us) (ds.drop (i + 1)) acc' κ5 R := by
          rw [ec8]
          exact h7
        have s8 : StOk K mg w8 (awipe ρ4 us1) (wipe σ4 us1) := (st_wipe s4 us1).mono (((t5.gr.trans t6.gr).trans g7).trans t8.gr)
        refine hg1 w8 x1 ds1[j] _ _ _ _ t8.ok s8 r8 h7' fun ρ9 σ9 w9 h9 t9 s9 a9 => ⟨wipe_agree a9 hv1, ?_⟩
        refine ⟨w9, ρ9, _, rfl, t9.ok, s9, h9, fun b w10 h10 t10 => ?_⟩
        have t810 := (t8.trans t9).trans t10
        cases b with
        | false =>
          rw [if_neg Bool.false_ne_true] at h10
          refine iteF ?_
          exact ⟨w10, xs7, acc7, rfl, g7.trans t810.gr, t810.ok, t810.hid.trans hh7, r7.mono t810.gr, h10⟩
        | true =>
          rw [if_pos rfl] at h10
          refine iteT ?_
          refine ⟨w10, ρ9, _, rfl, t10.ok, s9.mono t10.gr, h10, fun d11 w11 v11 h11 t11 r11 => ?_⟩
          have t811 := t810.trans t11
          have hh11 : w11.hid = (D0, .lst xs7) :: w1.hid := t811.hid.trans hh7
          have r7' := r7.mono t811.gr
          refine ⟨xs7, (t811.ok.hidH D0 _ (by rw [hh11]; exact List.mem_cons_self)).1, by rw [r7'.length, sizeLine_eq]; exact h11.1, ?_⟩
          have g12 := gr_rehide (o := .lst (xs7 ++ [v11])) t811.ok hh11
          refine ⟨w11.rehide w1.hid D0 (.lst (xs7 ++ [v11])), xs7 ++ [v11], acc7 ++ [d11], rfl, (g7.trans t811.gr).trans g12, ok_rehide t811.ok hh11 trivial, rfl, (r7'.append (.cons r11 .nil)).mono g12, h11.2⟩
      · have e : j = ds1.length := by omega
        subst e
        rw [List.drop_length] at h7
        exact .inl ⟨stop1, w7, xs7, acc7, rfl, (g2.trans t36.gr).trans g7, ok7, hh7, r7, h7⟩
  · have e : i = ds.length := by omega
    subst e
    rw [List.drop_length] at h2
    exact .inl ⟨stop, k acc w2 D0 xs h2 (t1.gr.trans g2) (by rw [hh2, t1.hid]) ok2 r2⟩
section
variable {Θ : TbL} {X : Cx} {elt tg iter tg1 iter1 : Expr} {ifs ifs1 : List Expr} {scope : Scope} {own : List (Str × Nat)} {pos : Pos} {src src1 : AA} {ag ag1 : AG} {vs vs1 : List Nat} {tt tt1 : AT} {te : AE}
/-- [elt for target in iter if .. for target1 in iter1 if ..], a new list -/
theorem q_comp2 (own : List (Str × Nat)) (us1 : List Nat) (hc : X.calm = true) (hN : X.N.Nodup) (hi : QI Θ X tg iter src) (ok : blkC X.N X.env.scope scope own = true)
    (hg : ∃ g, (∀ (s : Shared) (H : Hp) (C : Addr) (cl : List (Str × Addr)) (fp : List Addr), PG (X.blk s H scope (compEnvC scope cl C X.env) fp) tg g) ∧ GOk X.K (X.mgx Θ) g ag vs)
    (ht : ∀ (s : Shared) (H : Hp) (C : Addr) (cl : List (Str × Addr)) (fp : List Addr), QTs Θ (X.blk s H scope (compEnvC scope cl C X.env) fp) ifs tt)
    (hi1 : ∀ (s : Shared) (H : Hp) (C : Addr) (cl : List (Str × Addr)) (fp : List Addr), QI Θ (X.blk s H scope (compEnvC scope cl C X.env) fp) tg1 iter1 src1)
    (hg1 : ∃ g, (∀ (s : Shared) (H : Hp) (C : Addr) (cl : List (Str × Addr)) (fp : List Addr), PG (X.blk s H scope (compEnvC scope cl C X.env) fp) tg1 g) ∧ GOk X.K (X.mgx Θ) g ag1 vs1)
    (ht1 : ∀ (s : Shared) (H : Hp) (C : Addr) (cl : List (Str × Addr)) (fp : List Addr), QTs Θ (X.blk s H scope (compEnvC scope cl C X.env) fp) ifs1 tt1)
    (he : ∀ (s : Shared) (H : Hp) (C : Addr) (cl : List (Str × Addr)) (fp : List Addr), QE Θ (X.blk s H scope (compEnvC scope cl C X.env) fp) elt te) (hv : vs.all (fun v => (own.map (·.2)).contains v) = true := by decide)
    (hv1 : vs1.all (fun v => us1.contains v) = true := by decide) (hu1 : us1.all (fun v => (own.map (·.2)).contains v) = true := by decide)
    (hs : ∀ x, foldedSetIterable iter X.env x = pure x := by intro _; rfl) (hs1 : ∀ env x, foldedSetIterable iter1 env x = pure x := by intro _ _; rfl) : QL Θ X (.ListComp elt [⟨tg, iter, ifs, 0⟩, ⟨tg1, iter1, ifs1, 0⟩] scope pos) (aComp2 src ag tt src1 ag1 tt1 te (own.map (·.2)) us1) := by
  obtain ⟨g, p, o⟩ := hg
  obtain ⟨g1, p1, o1⟩ := hg1
  have sub : ∀ {a b : List Nat}, a.all (fun v => b.contains v) = true → ∀ v ∈ a, v ∈ b := fun h v hm => by
    have q := List.all_eq_true.mp h v hm
    simpa using q
  refine (pe_lc2 hc hN hi (blkOk_by ok) (sub hu1) p ht hi1 p1 ht1 he hs hs1).imp fun _ _ _ h => lift_comp2 o (sub hv) o1 (sub hv1) h
end
@[simp] theorem e_comp2 {src src1 : AA} {ag ag1 : AG} {tt tt1 : AT} {te : AE} {us us1 : List Nat} {ρ : Rho} {κ : Cs} {R : List D → Cs → Prop} : aComp2 src ag tt src1 ag1 tt1 te us us1 ρ κ R ↔ src ρ κ fun ds κ' => compL2 ag tt src1 ag1 tt1 te us1 (awipe ρ us) ds [] κ' R := .rfl
end PD
set_option Elab.async false
set_option linter.all false
set_option autoImplicit false
set_option maxRecDepth 100000
set_option maxHeartbeats 4000000
/-! PD, part 37: min(xs, key=lambda x: (len(x), x), default=None), xs a list of lists. -/
namespace PD
open PySem PySem.W PySem.Calls PyProof.Rows
section
variable {prog : Program} {w : World} {A : Around} {s : Shared}
/-- what the key of one list is: a new tuple of its length and itself -/
def KeyNew (h0 : Heap) (n : Nat) (v : Value) (s' : Shared) (u : Value) (s'' : Shared) : Prop := ∃ (T : Addr) (tok : Nat) (o : Obj) (e : Nat) (h' : Heap) (tk : Nat), u = .ref T ∧ s'' = { s' with heap := h', toks := tk } ∧ Keep s'.heap h' ∧ s'.heap.get? T = none ∧ h'.get? T = some o ∧ o.cls = .type "tuple" ∧ o.data = .seq #[.int n tok, v] e
theorem minKD {l f : Addr} {d : Value} {vs : List Value} {ks : List PyData} {ns : Nat → Nat} {Q : Value → Shared → Prop} {E : Value → Shared → Prop} (hh : A.in1.handled = none) (hl : s.heap.IsList l vs.toArray) (hlen : ks.length = vs.length) (hal : ∀ (i j : Nat) ki kj, ks[i]? = some ki → ks[j]? = some kj → alike ki kj = true)
    (hrd : ∀ (i : Nat) v k, vs[i]? = some v → ks[i]? = some k → ∃ as, Reads s.heap v k as) (hdp : ∀ k ∈ ks, A.units + k.depth + 8 < cLine)
    (turn : ∀ (i : Nat) v, vs[i]? = some v → ∀ (h : Heap) (tk : Nat), Keep s.heap h → wpAny (model prog w) A.in1 (call (.ref f) [v]) (KeyNew h (ns i) v { s with heap := h, toks := tk }) (fun _ _ => False) { s with heap := h, toks := tk })
    (h0 : vs = [] → ∀ h tk, Keep s.heap h → Q d { s with heap := h, toks := tk })
    (hQ : ∀ v, vs[argBest (fun i j => dataLt (.tuple [.int (ns i), ks.getD i .none]) (.tuple [.int (ns j), ks.getD j .none])) (vs.length - 1)]? = some v → ∀ h tk, Keep s.heap h → Q v { s with heap := h, toks := tk }) :
    wpAny (model prog w) A (call (.builtin "min") [.ref l] [(Str.ofString "key", .ref f), (Str.ofString "default", d)]) Q E s := by
  have hls : l < s.heap.objs.size := by
    obtain ⟨o, ho, _⟩ := hl
    exact Heap.lt_size ho
  have hne : l ≠ s.heap.objs.size := Nat.ne_of_lt hls
  refine call_min_walkKD (wpAny_pyIter_list hl ?_)
  have hki : Keep s.heap (s.heap.push { cls := .type "list_iterator", data := .fields #[.ref l, .int 0 0] }) := fun b o e => Heap.get?_push_of_some _ e
  have hsz : (s.heap.push { cls := .type "list_iterator", data := .fields #[.ref l, .int 0 0] }).objs.size = s.heap.objs.size + 1 := size_push' _ _
  refine ⟨s.heap.objs.size, [s.heap.objs.size, l], [s.heap.objs.size], fun a b => b = a, vs.toArray.size, fun i v => vs.toArray[i]? = some v, fun i s' => s'.heap.IsListIter s.heap.objs.size l i ∧ s'.heap.IsList l vs.toArray,
    fun s' => ∃ h tk, s' = { s with heap := h, toks := tk } ∧ Keep s.heap h, fun i k s' => ∃ (T : Addr) (tok : Nat) (o : Obj) (e : Nat) (v : Value), k = .ref T ∧ T ≠ s.heap.objs.size + 1 ∧ T ≠ s.heap.objs.size ∧ s'.heap.get? T = some o ∧ o.cls = .type "tuple" ∧ o.data = .seq #[.int (ns i) tok, v] e ∧ vs[i]? = some v,
    fun i j => dataLt (.tuple [.int (ns i), ks.getD i .none]) (.tuple [.int (ns j), ks.getD j .none]), rfl, (Walks.list hh _ l hne vs.toArray).toS, ⟨⟨_, Heap.get?_push_size _ rfl, rfl, rfl⟩, hl.at fun o e => hki _ _ e⟩, ?_, ?_, ⟨_, s.toks, rfl, hki⟩, ?_, ?_⟩
  · intro b hb
    rw [hsz]
    rcases List.mem_cons.mp hb with rfl | hb
    · exact Nat.lt_succ_self _
    · rw [List.mem_singleton.mp hb]
      exact Nat.lt_succ_of_lt hls
  · rw [hsz]
    refine ⟨?_, ?_, ?_, ?_⟩
    · rintro s1 s2 ⟨h, tk, rfl, kp⟩ m
      refine ⟨s2.heap, s2.toks, ?_, fun b o e => ?_⟩
      · have e1 := m.gens
        have e2 := m.drawn
        have e3 := m.os
        cases s2
        simp at e1 e2 e3 ⊢
        exact ⟨e1, e2, e3⟩
      · refine m.heap b o (fun hb => ?_) (kp b o e)
        have hlt := Heap.lt_size e
        rcases List.mem_cons.mp hb with rfl | hb
        · exact Nat.lt_irrefl _ (Nat.lt_of_succ_lt hlt)
        · rw [List.mem_singleton.mp hb] at hlt
          exact Nat.lt_irrefl _ hlt
    · rintro i k s1 s2 ⟨T, tok, o, e, v, rfl, n1, n2, g, c1, c2, c3⟩ m
      exact ⟨T, tok, o, e, v, rfl, n1, n2, m.heap T o (fun hb => by
        rcases List.mem_cons.mp hb with hb | hb
        · exact n1 hb
        · exact n2 (List.mem_singleton.mp hb)) g, c1, c2, c3⟩
    · rintro i v s1 o Q' E' hi hP ⟨h, tk, rfl, kp⟩ st hS hQ'
      have hP' : vs[i]? = some v := by simpa using hP
      refine wpAny_mono (turn i v hP' h tk kp) (fun u s2 hu => ?_) fun _ _ hF => hF.elim
      obtain ⟨T, tok, o2, e, h', tk', rfl, rfl, kp', hn, hT, c1, c2⟩ := hu
      have hI : ∃ oi, h.get? s.heap.objs.size = some oi := by
        obtain ⟨oi, e1, _⟩ := st.1
        exact ⟨oi, e1⟩
      obtain ⟨oi, hI⟩ := hI
      have nS : T ≠ s.heap.objs.size + 1 := fun z => by
        rw [z] at hn
        have hS : h.get? (s.heap.objs.size + 1) = some o := hS
        have hn : h.get? (s.heap.objs.size + 1) = none := hn
        rw [hS] at hn
        cases hn
      have nI : T ≠ s.heap.objs.size := fun z => by
        rw [z] at hn
        have hn : h.get? s.heap.objs.size = none := hn
        rw [hI] at hn
        cases hn
      refine hQ' (.ref T) _ ⟨h', tk', rfl, fun b o e => kp' b o (kp b o e)⟩ ⟨st.1.at fun o e => kp' _ _ e, st.2.at fun o e => kp' _ _ e⟩ (kp' _ _ hS) ⟨T, tok, o2, e, v, rfl, nS, nI, hT, c1, c2, hP'⟩ ?_
      rintro j k' ⟨T2, tok2, o3, e2, v2, rfl, n1, n2, g, c1, c2, c3⟩
      exact ⟨T2, tok2, o3, e2, v2, rfl, n1, n2, kp' _ _ g, c1, c2, c3⟩
    · rintro i j ki kj s1 Q' E' ⟨h, tk, rfl, kp⟩ ⟨T, tok, o, e, v, rfl, n1, n2, g, c1, c2, c3⟩ ⟨T', tok', o', e', v', rfl, n1', n2', g', c1', c2', c3'⟩ hq
      obtain ⟨k, ek⟩ : ∃ k, ks[i]? = some k := ⟨_, List.getElem?_eq_getElem (by have := (List.getElem?_eq_some_iff.mp c3).1; omega)⟩
      obtain ⟨k', ek'⟩ : ∃ k, ks[j]? = some k := ⟨_, List.getElem?_eq_getElem (by have := (List.getElem?_eq_some_iff.mp c3').1; omega)⟩
      obtain ⟨as, r⟩ := hrd i v k c3 ek
      obtain ⟨as', r'⟩ := hrd j v' k' c3' ek'
      have ei : ks.getD i .none = k := by rw [List.getD_eq_getElem?_getD, ek]; rfl
      have ej : ks.getD j .none = k' := by rw [List.getD_eq_getElem?_getD, ek']; rfl
      have hd1 := hdp k (List.mem_of_getElem? ek)
      have rt : Reads h (.ref T) (.tuple [.int (ns i), k]) ([] ++ (as ++ [])) := .tuple g c1 c2 (.cons (.int _ _) (.cons (PyProof.Rows.Reads.keeps kp r) .nil))
      have rt' : Reads h (.ref T') (.tuple [.int (ns j), k']) ([] ++ (as' ++ [])) := .tuple g' c1' c2' (.cons (.int _ _) (.cons (PyProof.Rows.Reads.keeps kp r') .nil))
      rw [ei, ej] at hq
      refine lt_data (s := { s with heap := h, toks := tk }) (A := A.in1) rt rt' ?_ (fun z => by cases z) ?_ hq
      · rw [alike, alikeAll, alikeAll, hal i j k k' ek ek']
        simp [alike, alikeAll]
      · have e1 : (PyData.tuple [.int (ns i), k]).depth ≤ k.depth + 1 := by
          simp only [PyData.depth, PyData.depthAll]
          omega
        have : A.in1.units = A.units + 1 := rfl
        omega
  · rintro hn s' ⟨h, tk, rfl, kp⟩
    exact h0 (by
      cases vs with
      | nil => rfl
      | cons a b => simp at hn) h tk kp
  · rintro hn v s' hP ⟨h, tk, rfl, kp⟩
    have hP' : vs[argBest (fun i j => dataLt (.tuple [.int (ns i), ks.getD i .none]) (.tuple [.int (ns j), ks.getD j .none])) (vs.length - 1)]? = some v := by simpa using hP
    exact hQ v hP' h tk kp
/-- one call of lambda x: (len(x), x) -/
theorem lam_key {f c' : Addr} {q x : Str} {params : Arguments} {scope : Scope} {clo : List (Str × Addr)} {pm ctv v : Value} {mg mb : Str → Option Value} {a : Addr} {items : Array Value} {p1 p2 p3 p4 p5 : Pos} {k : Nat} (hd : A.depth < recursionLimit)
    (of : s.heap.get? f = some (kla_obj "<lambda>" q params (.Tuple [.Call (.Name "len" p1) [.Name x p2] [] p3, .Name x p4] k p5) scope clo pm c' ctv)) (co : scope.isCoroutine = false) (gen : scope.isGenerator = false) (kind : scope.kind = .function) (code : s.heap.CodeRec (.ref c') q) (lim : s.heap.NoLimit)
    (hbind : bindArgs (kla_fn "<lambda>" q params (.Tuple [.Call (.Name "len" p1) [.Name x p2] [] p3, .Name x p4] k p5) scope clo pm (.ref c') ctv) ⟨[v], []⟩ = pure [(x, v)]) (hnc : ∀ y ∈ scope.names, y.2 ≠ .cell) (hx : scope.names.lookup x = some .local) (hxd : (x == ("__debug__" : Str)) = false)
    (hlen : ∀ L, (envX q scope L f (.ref c') clo).kindOf "len" = some .globalImplicit) (hg : s.heap.Ns mainGlobals mg) (hm : mg "len" = none) (hb : s.heap.Ns builtinsNs mb) (hmb : mb "len" = some (.builtin "len")) (hv : v = .ref a) (ha : s.heap.IsList a items) (hfit : (items.size : Int) < 2 ^ 63)
    (hst : ∀ L, backTo p5 (starEach [.Call (.Name "len" p1) [.Name x p2] [] p3, .Name x p4] (envX q scope L f (.ref c') clo)) = [(false, eval (.Call (.Name "len" p1) [.Name x p2] [] p3) (envX q scope L f (.ref c') clo)), (false, eval (.Name x p4) (envX q scope L f (.ref c') clo))]) :
    wpAny (model prog w) A (call (.ref f) [v]) (KeyNew s.heap items.size v s) (fun _ _ => False) s := by
  subst hv
  have rc : codeAny (model prog w) A (.call (.ref f) ⟨[.ref a], []⟩) (fun r s' => ∃ u, r = .ok (.ret u) ∧ KeyNew s.heap items.size (.ref a) s u s') s := by
    refine kla_callFunE hd of rfl co gen rfl code ?_
    rw [hbind]
    refine wpAny_pure (wpAny_newFunctionEnv hnc (fun y hy => by rw [List.mem_singleton.mp hy]; exact hx) (fun h₁ hns hsb => ⟨lim.fresh _ hsb, ?_⟩) kind)
    show codeAny _ _ (.expr _ (envX q scope s.heap.objs.size f (.ref c') clo)) _ _
    have kp : Keep s.heap h₁ := fun b o e => hsb.extBut b o (Nat.ne_of_lt (Heap.lt_size e)) (Heap.get?_push_of_some _ e)
    have hxl : (envX q scope s.heap.objs.size f (.ref c') clo).kindOf x = some .local := hx
    have hlook : (([(x, .ref a)] : List (Str × Value)).reverse.lookup x) = some (.ref a) := by simp [List.lookup]
    refine kla_codeExpr (wpAny_Tuple ?_)
    rw [hst]
    refine Calls.spliced_cons (Call_ (Calls.Name_function_global kind (hlen _) (Calls.loadGlobal_builtin (ns_keep kp hg) hm (ns_keep kp hb) hmb ?_) (by decide)))
    refine PyProof.Rows.callWith_builtin1 (PyProof.Rows.args_cons (wpAny_Name (wpAny_loadName_local kind hxl hns hlook (PyProof.Rows.args_nil ?_)) hxd) rfl) rfl rfl
    have ha1 : h₁.IsList a items := ha.at fun o e => kp _ _ e
    refine call_len_list (s := { s with heap := h₁, toks := _ }) ha1 hfit ?_
    refine Calls.spliced_cons (wpAny_Name (wpAny_loadName_local kind hxl hns hlook (Calls.spliced_nil ?_)) hxd)
    refine ⟨by show 2 ≤ sizeLine; rw [sizeLine_eq]; omega, _, rfl, h₁.objs.size, _, _, _, _, _, rfl, rfl, fun b o e => Heap.get?_push_of_some _ (kp b o e), ?_, Heap.get?_push_size _ rfl, rfl, rfl⟩
    · cases q : s.heap.get? h₁.objs.size with
      | none => rfl
      | some o => exact absurd (Heap.lt_size (kp _ _ q)) (Nat.lt_irrefl _)
  refine wpAny_call (codeAny_mono rc fun r s' hq => ?_)
  obtain ⟨u, rfl, hq⟩ := hq
  exact hq
end
end PD
namespace PD
open PySem PySem.Spec PyProof.Rows L2
def lenP : PyData → Nat
  | .list l => l.length
  | _ => 0
/-- which of the lists is the first with the least key (length, list) -/
def bestL (ks : List PyData) : Nat := argBest (fun i j => PySem.W.dataLt (.tuple [.int (lenP (ks.getD i .none)), ks.getD i .none]) (.tuple [.int (lenP (ks.getD j .none)), ks.getD j .none])) (ks.length - 1)
def wantM (K : Frag) (T : List (Addr × Str)) (Q : VK) (x : V) (H1 : Hp) : Prop := LamX.Tabs T H1 ∧ ∃ (a : Addr) (xs : List V) (ks : List (List PyData)), x = .ref a ∧ SqL K H1 a xs ∧ xs.length ≤ 100000 ∧ ks.length = xs.length ∧ (∀ (i j : Nat) ki kj, ks[i]? = some ki → ks[j]? = some kj → PySem.W.alike (.list ki) (.list kj) = true) ∧ (∀ d ∈ ks, (PyData.list d).depth ≤ 10) ∧
  (∀ (i : Nat) (v : V) k, xs[i]? = some v → ks[i]? = some k → ∃ b ys, v = .ref b ∧ SqL K H1 b ys ∧ DpAll K H1 ys k) ∧
  (xs = [] → ∀ H2, LamX.ExtN H1 H2 → LamX.Tabs T H2 → Q .non H2) ∧ ∀ v, xs[bestL (ks.map PyData.list)]? = some v → ∀ H2, LamX.ExtN H1 H2 → LamX.Tabs T H2 → Q v H2
def tMinL (K : Frag) (T : List (Addr × Str)) (te : TE) : TE := fun σ H Q => te σ H fun x H1 => wantM K T Q x H1
theorem dpAll_len {K : Frag} {H : Hp} : ∀ {vs : List V} {ds : List PyData}, DpAll K H vs ds → vs.length = ds.length
  | _, _, .nil => rfl
  | _, _, .cons _ r => by rw [List.length_cons, List.length_cons, dpAll_len r]
section
variable {X : Cx} {e : Expr} {te : TE} {params : Arguments} {scope : Scope} {lpos kpos dpos cpos pos p p1 p2 p3 p4 p5 : Pos} {c P : Addr} {T : List (Addr × Str)} {x : Str} {k kt kc : Nat}
theorem pe_minL (hg : Gl X "min") (hm : X.mg "min" = none) (hml : X.mg "len" = none) (he : PE X e te) (TB : LamX.TabB X.base X.mg c P) (hcode : X.env.code = .ref c) (hmT : (P, X.env.qual ++ "<lambda>") ∈ T) (hu : ∀ p ∈ T, p.1 = P → p.2 = X.env.qual ++ "<lambda>") (hc : X.calm = true)
    (hr : Room k X.A) (L : Lam1 X.env.scope scope x) (hdef : defaultsOf params X.env = ([], [])) (hln : scope.names.lookup ("len" : Str) = some NameKind.globalImplicit) (hxd : (x == ("__debug__" : Str)) = false)
    (hbind : ∀ (q : Str) (cl : List (Str × Addr)) (pm cv ctv v : Value), bindArgs (PySem.W.kla_fn "<lambda>" q params (.Tuple [.Call (.Name "len" p1) [.Name x p2] [] p3, .Name x p4] kt p5) scope cl pm cv ctv) ⟨[v], []⟩ = pure [(x, v)])
    (hstT : ∀ env, backTo p5 (starEach [.Call (.Name "len" p1) [.Name x p2] [] p3, .Name x p4] env) = [(false, eval (.Call (.Name "len" p1) [.Name x p2] [] p3) env), (false, eval (.Name x p4) env)] := by intro _; rfl)
    (hst0 : starEach [e] X.env = (false, eval e X.env) :: starEach [] X.env := by rfl) (hst : backTo pos (starEach [e] X.env) = (false, eval e X.env) :: backTo pos (starEach [] X.env) := by rfl) (hpl : (backTo pos (starEach [e] X.env)).any (·.1) = false := by rfl) :
    PE X (.Call (.Name "min" p) [e] [⟨some "key", .Lambda params (.Tuple [.Call (.Name "len" p1) [.Name x p2] [] p3, .Name x p4] kt p5) scope lpos, kpos⟩, ⟨some "default", .Constant .none kc cpos, dpos⟩] pos) (tMinL X.K T te) := by
  refine ⟨fun pins s σ H Q I h => ?_⟩
  refine wpAny_Call_Name_kw (ld_blt I hg hm boot_min ?_ (by decide) (by decide))
  have hfree : ∀ y ∈ scope.names, y.2 = .free → ∃ c, X.env.cells.lookup y.1 = some c := fun y hy ey => by
    rcases L.free y hy ey with k | k
    · exact I.ok.has _ (.inl k)
    · exact I.ok.has _ (.inr k)
  refine PyProof.Rows.callWith_kw (thn ((pa_cons he pa_nil hst0).run pos pins s σ H (one1 (wantM X.K T Q)) I h) fun us s1 ⟨vs, H1, I1, r1, q1⟩ => ?_) hst hpl rfl rfl
  show wpAny _ _ (evalAll ((do let v ← eval (.Lambda params _ scope lpos) X.env; standAt pos; pure v) :: (do let v ← eval (.Constant .none kc cpos) X.env; standAt pos; pure v) :: [])) _ _ s1
  obtain ⟨x0, rfl, hT, a, xs, ks, rfl, hs, hz, hlen, hal, hdp, hks, h0, hQ⟩ := one1_inv q1
  obtain rfl := Vals.ref1 r1
  refine wpAny_evalAll_cons (wpAny_bind (LamX.lam_make2 I1 TB hcode hmT hu hT hdef hfree fun f c' pm ctv H2 s2 I2 eN T2 hf hfn hfr hco => wpAny_bind (wpAny_standAt (wpAny_pure ?_))))
  refine wpAny_evalAll_cons (wpAny_bind (wpAny_Constant_none (wpAny_bind (wpAny_standAt (wpAny_pure ?_)))))
  refine wpAny_evalAll_nil ?_
  show wpAny _ _ (call (.builtin "min") [.ref a] [(Str.ofString "key", .ref f), (Str.ofString "default", .none)]) _ _ _
  obtain ⟨its, rv, pl, _⟩ := I2.list (sql_ext eN hs)
  have hl := rv.length
  obtain ⟨mb, hb1, hb2⟩ := I2.mod.blt
  have hx2 : ∀ (i : Nat) (v : Value) (kk : List PyData), its[i]? = some v → ks[i]? = some kk → ∃ b us, v = .ref b ∧ s2.heap.IsList b us ∧ us.size = kk.length ∧ (us.size : Int) < 2 ^ 63 ∧ ∃ as, Reads s2.heap v (.list kk) as := fun i v kk hv hk => by
    obtain ⟨xv, exv, rx⟩ : ∃ xv, xs[i]? = some xv ∧ L2.RelV xv v := by
      have hi : i < xs.length := by rw [hl]; exact (List.getElem?_eq_some_iff.mp hv).1
      have e0 := List.getElem?_eq_getElem hi
      obtain ⟨u, eu, ru⟩ := rv.get e0
      rw [hv] at eu
      cases eu
      exact ⟨_, e0, ru⟩
    obtain ⟨b, ys, rfl, hb, hd⟩ := hks i xv kk exv hk
    obtain rfl : v = Value.ref b := rx
    obtain ⟨us, ru, pu, hz2⟩ := I2.list (sql_ext eN hb)
    obtain ⟨as, r⟩ := Dp.reads I2 (.list kk) (.ref b) (.ref b) (.lst (sql_ext eN hb) (dps_ext eN hd)) rfl
    exact ⟨b, us.toArray, rfl, pu.isList, by rw [List.size_toArray, ← ru.length, dpAll_len hd], by rw [List.size_toArray, ← ru.length]; rw [sizeLine_eq] at hz2; omega, as, r⟩
  have hkl : ∀ i, i < its.length → ∃ kk, ks[i]? = some kk := fun i hi => ⟨_, List.getElem?_eq_getElem (by omega)⟩
  refine minKD (ks := ks.map PyData.list) (ns := fun i => lenP ((ks.map PyData.list).getD i .none)) (vs := its) (by
    have := I2.ok.hd hc
    exact this) pl.isList (by rw [List.length_map]; omega) (fun i j ki kj e1 e2 => ?_) (fun i v kk hv hk => ?_) (fun kk hk => ?_) (fun i v hv h tk kp => ?_) (fun e0 h tk kp => ?_) fun v hv h tk kp => ?_
  · rw [List.getElem?_map] at e1 e2
    obtain ⟨k1, q1, rfl⟩ := Option.map_eq_some_iff.mp e1
    obtain ⟨k2, q2, rfl⟩ := Option.map_eq_some_iff.mp e2
    exact hal i j k1 k2 q1 q2
  · rw [List.getElem?_map] at hk
    obtain ⟨k1, q1, rfl⟩ := Option.map_eq_some_iff.mp hk
    obtain ⟨b, us, _, _, _, _, h⟩ := hx2 i v k1 hv q1
    exact h
  · obtain ⟨k1, q1, rfl⟩ := List.mem_map.mp hk
    have := hdp k1 q1
    have := hr.un
    omega
  · obtain ⟨kk, hk⟩ := hkl i (List.getElem?_eq_some_iff.mp hv).1
    obtain ⟨b, us, rfl, hu1, hu2, hu3, _⟩ := hx2 i v kk hv hk
    obtain ⟨⟨oc, vs, t, hoc, hdc, hvc⟩, _, _⟩ := I2.hok c' _ hco
    have en : (lenP ((ks.map PyData.list).getD i .none)) = us.size := by
      rw [List.getD_eq_getElem?_getD, List.getElem?_map, hk]
      exact hu2.symm
    rw [en]
    exact lam_key (s := { s2 with heap := h, toks := tk }) hr.depth (kp _ _ hf) L.co L.gen L.kind ⟨c', oc, vs, t, rfl, kp _ _ hoc, hdc, hvc⟩ (I2.nolimit.keeps kp) (hbind _ _ _ _ _ _) L.own L.par hxd (fun _ => hln) (ns_keep (fun b o e => kp b o e) (I2.mod.glob.keeps I2.bk)) hml (ns_keep (fun b o e => kp b o e) (hb1.keeps I2.bk)) ((hb2 _ (by decide)).trans boot_len) rfl (hu1.at fun o e => kp _ _ e) hu3 fun _ => hstT _
  · refine ⟨.non, H2, I2.kept (t' := tk) kp, rfl, h0 ?_ H2 eN T2⟩
    rw [e0] at hl
    exact List.eq_nil_of_length_eq_zero hl
  · have hb : bestL (ks.map PyData.list) = argBest (fun i j => PySem.W.dataLt (.tuple [.int (lenP ((ks.map PyData.list).getD i .none)), (ks.map PyData.list).getD i .none]) (.tuple [.int (lenP ((ks.map PyData.list).getD j .none)), (ks.map PyData.list).getD j .none])) (its.length - 1) := by
      rw [bestL, List.length_map, hlen, hl]
    obtain ⟨xv, exv, rx⟩ : ∃ xv, xs[bestL (ks.map PyData.list)]? = some xv ∧ L2.RelV xv v := by
      rw [← hb] at hv
      have hi : bestL (ks.map PyData.list) < xs.length := by rw [hl]; exact (List.getElem?_eq_some_iff.mp hv).1
      have e0 := List.getElem?_eq_getElem hi
      obtain ⟨u, eu, ru⟩ := rv.get e0
      rw [hv] at eu
      cases eu
      exact ⟨_, e0, ru⟩
    exact ⟨xv, H2, I2.kept (t' := tk) kp, rx, hQ xv exv H2 eN T2⟩
end
end PD
namespace PD
open PySem PySem.Spec PyProof.Rows L2
def aMinL (t : AE) : AE := fun ρ κ R => t ρ κ fun d κ1 => ∃ dss : List (List D), seqOf κ1 d = some (dss.map D.lst) ∧ dss.length ≤ 100000 ∧ (∀ x ∈ dss, ∀ y ∈ dss, PySem.W.alike (pyOf (.lst x)) (pyOf (.lst y)) = true) ∧ (∀ x ∈ dss, (pyOf (.lst x)).depth ≤ 10 ∧ plains x = true) ∧
  (dss = [] → R .non κ1) ∧ ∀ ds, dss[bestL (dss.map fun x => pyOf (.lst x))]? = some ds → R (.lst ds) κ1
section
variable {Θ : TbL} {X : Cx} {e : Expr} {t : AE} {params : Arguments} {scope : Scope} {lpos kpos dpos cpos pos p p1 p2 p3 p4 p5 : Pos} {c P : Addr} {x : Str} {k kt kc : Nat}
theorem q_minL (hm : X.mg "min" = none) (hml : X.mg "len" = none) (he : QE Θ X e t) (TB : LamX.TabB X.base X.mg c P) (hcode : X.env.code = .ref c) (hmT : (P, X.env.qual ++ "<lambda>") ∈ Θ) (hu : ∀ p ∈ Θ, p.1 = P → p.2 = X.env.qual ++ "<lambda>") (hc : X.calm = true)
    (hr : Room k X.A) (L : Lam1 X.env.scope scope x) (hdef : defaultsOf params X.env = ([], [])) (hln : scope.names.lookup ("len" : Str) = some NameKind.globalImplicit) (hxd : (x == ("__debug__" : Str)) = false)
    (hbind : ∀ (q : Str) (cl : List (Str × Addr)) (pm cv ctv v : Value), bindArgs (PySem.W.kla_fn "<lambda>" q params (.Tuple [.Call (.Name "len" p1) [.Name x p2] [] p3, .Name x p4] kt p5) scope cl pm cv ctv) ⟨[v], []⟩ = pure [(x, v)]) (hg : Gl X "min" := by rfl)
    (hstT : ∀ env, backTo p5 (starEach [.Call (.Name "len" p1) [.Name x p2] [] p3, .Name x p4] env) = [(false, eval (.Call (.Name "len" p1) [.Name x p2] [] p3) env), (false, eval (.Name x p4) env)] := by intro _; rfl)
    (hst0 : starEach [e] X.env = (false, eval e X.env) :: starEach [] X.env := by rfl) (hst : backTo pos (starEach [e] X.env) = (false, eval e X.env) :: backTo pos (starEach [] X.env) := by rfl) (hpl : (backTo pos (starEach [e] X.env)).any (·.1) = false := by rfl) :
    QE Θ X (.Call (.Name "min" p) [e] [⟨some "key", .Lambda params (.Tuple [.Call (.Name "len" p1) [.Name x p2] [] p3, .Name x p4] kt p5) scope lpos, kpos⟩, ⟨some "default", .Constant .none kc cpos, dpos⟩] pos) (aMinL t) := (pe_minL hg hm hml he TB hcode hmT hu hc hr L hdef hln hxd hbind hstT hst0 hst hpl).imp (by
  rintro σ H Q ⟨w, ρ, R, rfl, ok, st, h, k⟩
  refine ⟨w, ρ, _, rfl, ok, st, h, fun d w1 v1 h1 t1 r1 => ?_⟩
  obtain ⟨dss, e1, hz, hal, hdp, hR0, hR⟩ := h1
  obtain ⟨a, xs, rfl, hs, rs⟩ := seqOf_at t1.ok r1 e1
  have lx : xs.length = dss.length := by rw [rs.length, List.length_map]
  have el : (dss.map pysOf).map PyData.list = dss.map fun x => pyOf (.lst x) := by
    rw [List.map_map]
    exact List.map_congr_left fun x _ => by rw [pyOf]; rfl
  refine ⟨t1.ok.tab, a, xs, dss.map pysOf, rfl, hs, by omega, by rw [List.length_map, lx], fun i j ki kj q1 q2 => ?_, fun kk hk => ?_, fun i v kk hv hk => ?_, fun e0 H2 eN T2 => ?_, fun v hv H2 eN T2 => ?_⟩
  · rw [List.getElem?_map] at q1 q2
    obtain ⟨x, ex, rfl⟩ := Option.map_eq_some_iff.mp q1
    obtain ⟨y, ey, rfl⟩ := Option.map_eq_some_iff.mp q2
    have := hal x (List.mem_of_getElem? ex) y (List.mem_of_getElem? ey)
    rwa [pyOf, pyOf] at this
  · obtain ⟨x, hx, rfl⟩ := List.mem_map.mp hk
    have := (hdp x hx).1
    rwa [pyOf] at this
  · rw [List.getElem?_map] at hk
    obtain ⟨x, ex, rfl⟩ := Option.map_eq_some_iff.mp hk
    have e2 : (dss.map D.lst)[i]? = some (.lst x) := by rw [List.getElem?_map, ex]; rfl
    obtain ⟨v', ev, rv⟩ := rs.get e2
    rw [hv] at ev
    cases ev
    obtain ⟨b, ys, rfl, hb, ry⟩ := seqOf_at t1.ok rv (show seqOf w1.ce (.lst x) = some x from rfl)
    exact ⟨b, ys, rfl, hb, dps_of x ys (hdp x (List.mem_of_getElem? ex)).2 ry⟩
  · have t2 := to_tab t1.ok eN T2
    have e2 : dss = [] := List.eq_nil_of_length_eq_zero (by rw [← lx, e0]; rfl)
    exact k _ { w1 with H := H2 } _ (hR0 e2) (t1.trans t2) .non
  · have t2 := to_tab t1.ok eN T2
    rw [el] at hv
    have hi : bestL (dss.map fun x => pyOf (.lst x)) < dss.length := by rw [← lx]; exact (List.getElem?_eq_some_iff.mp hv).1
    have ed := List.getElem?_eq_getElem hi
    have e2 : (dss.map D.lst)[bestL (dss.map fun x => pyOf (.lst x))]? = some (.lst dss[bestL (dss.map fun x => pyOf (.lst x))]) := by rw [List.getElem?_map, ed]; rfl
    obtain ⟨v', ev, rv⟩ := rs.get e2
    rw [hv] at ev
    cases ev
    exact k _ { w1 with H := H2 } _ (hR _ ed) (t1.trans t2) (rv.mono t2.gr))
@[simp] theorem e_minLK {ρ : Rho} {κ : Cs} {R : D → Cs → Prop} : aMinL t ρ κ R ↔ t ρ κ fun d κ1 => ∃ dss : List (List D), seqOf κ1 d = some (dss.map D.lst) ∧ dss.length ≤ 100000 ∧ (∀ x ∈ dss, ∀ y ∈ dss, PySem.W.alike (pyOf (.lst x)) (pyOf (.lst y)) = true) ∧ (∀ x ∈ dss, (pyOf (.lst x)).depth ≤ 10 ∧ plains x = true) ∧
  (dss = [] → R .non κ1) ∧ ∀ ds, dss[bestL (dss.map fun x => pyOf (.lst x))]? = some ds → R (.lst ds) κ1 := .rfl
end
end PD
set_option Elab.async false
set_option linter.all false
set_option autoImplicit false
set_option maxRecDepth 100000
set_option maxHeartbeats 4000000
/-! PD, part 38: dicts whose keys are numbers and texts, as cells: {}, k in d, k not in d, d[k], d[k] = v. -/
namespace PD
open PySem PySem.Spec PyProof.Rows L2
def keyD : D → Option Key
  | .int i => some (.inl i)
  | .str x => some (.inr x)
  | _ => none
section
variable {K : Frag} {mg : MG} {w : Wd}
theorem rp_key {v : V} {d : D} {k : Key} (r : Rp K mg w v d) (e : keyD d = some k) : v = kV k := by
  cases d with
  | int i => cases r; cases e; rfl
  | str x => cases r; cases e; rfl
  | _ => cases e
def lookI {κ : Type} [DecidableEq κ] (kvs : List (κ × D)) (k : κ) : Option D := (kvs.find? fun p => decide (p.1 = k)).map (·.2)
def putI {κ : Type} [DecidableEq κ] (kvs : List (κ × D)) (k : κ) (d : D) : List (κ × D) := if (lookI kvs k).isSome = true then kvs.map (fun p => if p.1 = k then (p.1, d) else p) else kvs ++ [(k, d)]
theorem look_rel {k : Key} : ∀ {xs : List (Key × V)} {kvs : List (Key × D)}, xs.map (·.1) = kvs.map (·.1) → Rps K mg w (xs.map (·.2)) (kvs.map (·.2)) →
    (valV xs k = none ∧ lookI kvs k = none) ∨ ∃ v d, valV xs k = some v ∧ lookI kvs k = some d ∧ Rp K mg w v d
  | [], [], _, _ => .inl ⟨rfl, rfl⟩
  | [], _ :: _, h, _ => by simp at h
  | _ :: _, [], h, _ => by simp at h
  | x :: xs, p :: kvs, h, r => by
    simp only [List.map_cons, List.cons.injEq] at h
    cases r with
    | cons r0 rs =>
      by_cases q : x.1 = k
      · refine .inr ⟨x.2, p.2, valV_pos q, ?_, r0⟩
        rw [lookI, List.find?_cons, decide_eq_true (by rw [← h.1]; exact q)]
        rfl
      · rw [valV_neg q, lookI, List.find?_cons, decide_eq_false (by rw [← h.1]; exact q)]
        exact look_rel h.2 rs
theorem look_some {k : Key} {xs : List (Key × V)} {kvs : List (Key × D)} (h : xs.map (·.1) = kvs.map (·.1)) (r : Rps K mg w (xs.map (·.2)) (kvs.map (·.2))) : (valV xs k).isSome = (lookI kvs k).isSome := by
  rcases look_rel (k := k) h r with ⟨e1, e2⟩ | ⟨v, d, e1, e2, _⟩ <;> rw [e1, e2] <;> rfl
theorem put_map {k : Key} {v : V} {d : D} (rv : Rp K mg w v d) : ∀ {xs : List (Key × V)} {kvs : List (Key × D)}, xs.map (·.1) = kvs.map (·.1) → Rps K mg w (xs.map (·.2)) (kvs.map (·.2)) →
    (xs.map fun kv => if kv.1 = k then (kv.1, v) else kv).map (·.1) = (kvs.map fun p => if p.1 = k then (p.1, d) else p).map (·.1) ∧
    Rps K mg w ((xs.map fun kv => if kv.1 = k then (kv.1, v) else kv).map (·.2)) ((kvs.map fun p => if p.1 = k then (p.1, d) else p).map (·.2))
  | [], [], _, _ => ⟨rfl, .nil⟩
  | [], _ :: _, h, _ => by simp at h
  | _ :: _, [], h, _ => by simp at h
  | x :: xs, p :: kvs, h, r => by
    simp only [List.map_cons, List.cons.injEq] at h
    cases r with
    | cons r0 rs =>
      obtain ⟨a1, a2⟩ := put_map (k := k) rv h.2 rs
      by_cases q : x.1 = k
      · have q' : p.1 = k := by rw [← h.1]; exact q
        simp only [List.map_cons, q, q', if_true]
        exact ⟨by rw [a1], .cons rv a2⟩
      · have q' : ¬ p.1 = k := by rw [← h.1]; exact q
        simp only [List.map_cons, q, q', if_false]
        exact ⟨by rw [a1, h.1], .cons r0 a2⟩
theorem putK_eq (xs : List (Key × V)) (k : Key) (v : V) : putK xs k v = if (valV xs k).isSome = true then xs.map (fun kv => if kv.1 = k then (kv.1, v) else kv) else xs ++ [(k, v)] := by
  rw [putK, valV_any]
theorem put_rel {k : Key} {v : V} {d : D} (rv : Rp K mg w v d) {xs : List (Key × V)} {kvs : List (Key × D)} (h : xs.map (·.1) = kvs.map (·.1)) (r : Rps K mg w (xs.map (·.2)) (kvs.map (·.2))) :
    (putK xs k v).map (·.1) = (putI kvs k d).map (·.1) ∧ Rps K mg w ((putK xs k v).map (·.2)) ((putI kvs k d).map (·.2)) := by
  rw [putK_eq, putI, look_some h r]
  split
  · exact put_map rv h r
  · refine ⟨by simp [h], ?_⟩
    rw [List.map_append, List.map_append]
    exact r.append (.cons rv .nil)
theorem dki_cell {v : V} {k : Nat} {kvs : List (Key × D)} (ok : WOk K mg w) (r : Rp K mg w v (.cell k)) (h : w.ce[k]? = some (some (.dki kvs))) :
    ∃ a xs, v = .ref a ∧ w.al[k]? = some a ∧ w.H a = some (.dK xs) ∧ xs.map (·.1) = kvs.map (·.1) ∧ Rps K mg w (xs.map (·.2)) (kvs.map (·.2)) := by
  cases r with
  | cell ea =>
    obtain ⟨b, eb, rb⟩ := ok.at_ k _ h
    rw [ea] at eb
    cases eb
    cases rb with
    | dki h1 h2 h3 => exact ⟨_, _, rfl, ea, h1, h2, h3⟩
end
/-! ### k in d -/
def rInI (f : Bool → Bool) : R2 := fun x y H Q => ∃ (a : Addr) (k : Key) (xs : List (Key × V)), x = kV k ∧ y = .ref a ∧ H a = some (.dK xs) ∧ Q (.bl (f (valV xs k).isSome)) H
theorem or_inI {X : Cx} (hu : X.A.units + 64 < cLine) : OpR X (compareOp .In) (rInI id) := by
  intro pins s σ H x y v u Q I rx ry h
  obtain ⟨a, k, xs, rfl, rfl, ha, q⟩ := h
  cases ry
  exact d_in (by omega) I (DGet.k ha) rx fun s3 I3 => ⟨.bl _, H, I3, rfl, q⟩
theorem or_notInI {X : Cx} (hu : X.A.units + 64 < cLine) : OpR X (compareOp .NotIn) (rInI not) := by
  intro pins s σ H x y v u Q I rx ry h
  obtain ⟨a, k, xs, rfl, rfl, ha, q⟩ := h
  cases ry
  exact d_notIn (by omega) I (DGet.k ha) rx fun s3 I3 => ⟨.bl _, H, I3, rfl, q⟩
def dInI (f : Bool → Bool) : A2 := fun d e κ R => match e with
  | .cell j => ∃ kvs k, κ[j]? = some (some (.dki kvs)) ∧ keyD d = some k ∧ R (.bl (f (lookI kvs k).isSome)) κ
  | _ => False
theorem o2_inI {K : Frag} {mg : MG} {f : Bool → Bool} : Op2 K mg (rInI f) (dInI f) := by
  intro w x y d e R Q ok rx ry h k
  unfold dInI at h
  split at h
  · obtain ⟨kvs, ks, q, hd, h⟩ := h
    obtain ⟨a, xs, rfl, ea, ha, h2, h3⟩ := dki_cell ok ry q
    refine ⟨a, ks, xs, rp_key rx hd, rfl, ha, ?_⟩
    rw [look_some h2 h3]
    exact k _ w _ h (.refl ok) (.bl _)
  · exact h.elim
/-! ### {} -/
def aDicNewI : AE := fun _ κ R => R (.cell κ.length) (κ ++ [some (.dki [])])
section
variable {Θ : TbL} {X : Cx} {o i a b : Expr} {t u : AE} {pos : Pos} {k : Nat}
theorem q_dicI : QE Θ X (.Dict [] [] pos) aDicNewI := pe_dnewK.imp (by
  rintro σ H Q ⟨w, ρ, R, rfl, ok, st, h, kk⟩
  intro p hp
  have hh : (w.hide p (.dK [])).hid = (p, .dK []) :: w.hid := rfl
  have ok1 := ok_hide ok hp (o := .dK []) trivial
  have t1 : To X.K (X.mgx Θ) w ((w.hide p (.dK [])).toCell w.hid p (.dki [])) := ⟨(gr_hide hp).trans (gr_toCell ok1 hh), rfl, ok_toCell ok1 hh (.dki (xs := []) upd_same rfl .nil)⟩
  refine kk (.cell w.ce.length) ((w.hide p (.dK [])).toCell w.hid p (.dki [])) (.ref p) h t1 ?_
  rw [← ok.len]
  exact rp_toCell (w := w.hide p (.dK [])))
/-! ### d[k] = v -/
def rSetI : V → V → V → Hp → (Hp → Prop) → Prop := fun o i v H Q => ∃ (a : Addr) (k : Key) (xs : List (Key × V)), o = .ref a ∧ i = kV k ∧ H a = some (.dK xs) ∧ xs.length ≤ 1000000 ∧ Q (upd H a (.dK (putK xs k v)))
theorem set_dicI (hu : X.A.units + 64 < cLine) : PSet X rSetI := by
  intro pins s σ H o i v ov iv u Q I ro ri rv h
  obtain ⟨a, k, xs, rfl, rfl, ha, hz, q⟩ := h
  cases ro
  exact d_setItem (by omega) I (DPut.k ha (by rw [sizeLine_eq]; omega)) ri rv fun s4 I4 => ⟨_, I4, q⟩
def aSubI (t u : AE) : AG := fun d ρ κ R => t ρ κ fun o κ1 => u ρ κ1 fun i κ2 => match o with
  | .cell k => ∃ kvs y, κ2[k]? = some (some (.dki kvs)) ∧ keyD i = some y ∧ kvs.length ≤ 1000000 ∧ R ρ (κ2.set k (some (.dki (putI kvs y d))))
  | _ => False
theorem dki_put {K : Frag} {mg : MG} {w : Wd} {a : Addr} {k : Nat} {kvs : List (Key × D)} {xs : List (Key × V)} {y : Key} {v : V} {d : D} (ok : WOk K mg w) (q : w.ce[k]? = some (some (.dki kvs))) (ea : w.al[k]? = some a)
    (h2 : xs.map (·.1) = kvs.map (·.1)) (h3 : Rps K mg w (xs.map (·.2)) (kvs.map (·.2))) (rv : Rp K mg w v d) : To K mg w (w.write k (.dki (putI kvs y d)) a (.dK (putK xs y v))) := by
  have g := gr_write (c' := .dki (putI kvs y d)) (o := .dK (putK xs y v)) ok q ea
  obtain ⟨a1, a2⟩ := put_rel (k := y) (rv.mono g) h2 (h3.mono g)
  exact ⟨g, rfl, ok_write ok q ea (.dki upd_same a1 a2)⟩
theorem qg_subI (hr : Room k X.A) (ho : QE Θ X o t) (hi : QE Θ X i u)
    (ha : ∀ v, assign (.Subscript o i pos) X.env v = (do let ov ← holding [v] (eval o X.env); let iv ← holding [v, ov] (eval i X.env); standAt pos; holding [v, ov, iv] (setItem ov iv v); release [v, ov, iv] []) := by intro _; rfl) : QG Θ X (.Subscript o i pos) (aSubI t u) [] := by
  refine ⟨_, pg_sub ho hi (set_dicI hr.units) ha, ?_⟩
  intro w v d ρ σ R Q ok st r h kk
  refine ⟨w, ρ, _, rfl, ok, st, h, fun o w1 v1 h1 t1 r1 => ?_⟩
  refine ⟨w1, ρ, _, rfl, t1.ok, st.mono t1.gr, h1, fun i w2 v2 h2 t2 r2 => ?_⟩
  split at h2
  · obtain ⟨kvs, y, q, e, hz, h2⟩ := h2
    obtain ⟨a, xs, rfl, ea, ha, g2, g3⟩ := dki_cell t2.ok (r1.mono t2.gr) q
    have tt := t1.trans t2
    have hl : xs.length ≤ 1000000 := by
      have := congrArg List.length g2
      rw [List.length_map, List.length_map] at this
      omega
    have t3 := dki_put (y := y) t2.ok q ea g2 g3 (r.mono tt.gr)
    exact ⟨a, y, xs, rfl, rp_key r2 e, ha, hl, kk ρ σ _ h2 (tt.trans t3) (st.mono (tt.trans t3).gr) ⟨rfl, fun _ _ => rfl⟩⟩
  · exact h2.elim
/-! ### d[k] -/
def dGetI : A2 := fun d e κ R => match d with
  | .cell j => ∃ kvs y v, κ[j]? = some (some (.dki kvs)) ∧ keyD e = some y ∧ lookI kvs y = some v ∧ R v κ
  | _ => False
theorem q_getI (hr : Room k X.A) (ha : QE Θ X a t) (hb : QE Θ X b u) (hs : NoSl b := by exact fun _ _ => rfl) : QE Θ X (.Subscript a b pos) (aOp dGetI t u) := (pe_dget (by have := hr.units; omega) ha hb hs).imp (by
  rintro σ H Q ⟨w, ρ, R, rfl, ok, st, h, kk⟩
  refine ⟨w, ρ, _, rfl, ok, st, h, fun d w1 v1 h1 t1 r1 => ?_⟩
  refine ⟨w1, ρ, _, rfl, t1.ok, st.mono t1.gr, h1, fun e w2 v2 h2 t2 r2 => ?_⟩
  unfold dGetI at h2
  split at h2
  · obtain ⟨kvs, y, v, q, e, hl, h2⟩ := h2
    obtain ⟨a, xs, rfl, ea, ha, g2, g3⟩ := dki_cell t2.ok (r1.mono t2.gr) q
    rcases look_rel (k := y) g2 g3 with ⟨_, e2⟩ | ⟨vv, dd, e1, e2, rr⟩
    · rw [hl] at e2
      cases e2
    · rw [hl] at e2
      cases e2
      refine ⟨a, vv, rfl, ?_, kk _ w2 _ h2 (t1.trans t2) rr⟩
      rw [rp_key r2 e, ← e1]
      exact DGet.k ha
  · exact h2.elim)
theorem q_inI (hr : Room k X.A) (ha : QE Θ X a t) (hb : QE Θ X b u) (hm : behindInMarks .In b = false := by rfl) : QE Θ X (.Compare a [.In] [b] pos) (aOp (dInI id) t u) := q_cmpR (or_inI hr.units) o2_inI ha hb hm
theorem q_notInI (hr : Room k X.A) (ha : QE Θ X a t) (hb : QE Θ X b u) (hm : behindInMarks .NotIn b = false := by rfl) : QE Θ X (.Compare a [.NotIn] [b] pos) (aOp (dInI not) t u) := q_cmpR (or_notInI hr.units) o2_inI ha hb hm
theorem qt_inI (hr : Room k X.A) (ha : QE Θ X a t) (hb : QE Θ X b u) (hm : behindInMarks .In b = false := by rfl) : QT Θ X (.Compare a [.In] [b] pos) (aTest (aOp (dInI id) t u)) := qt_cmpR (or_inI hr.units) o2_inI ha hb hm
theorem qt_notInI (hr : Room k X.A) (ha : QE Θ X a t) (hb : QE Θ X b u) (hm : behindInMarks .NotIn b = false := by rfl) : QT Θ X (.Compare a [.NotIn] [b] pos) (aTest (aOp (dInI not) t u)) := qt_cmpR (or_notInI hr.units) o2_inI ha hb hm
end
/-! ### unfolding -/
section
variable {ρ : Rho} {κ : Cs} {R : D → Cs → Prop} {RG : Rho → Cs → Prop} {t u : AE} {j : Nat}
@[simp] theorem e_dicNewI : aDicNewI ρ κ R ↔ R (.cell κ.length) (κ ++ [some (.dki [])]) := .rfl
@[simp] theorem e_inI {f : Bool → Bool} {d : D} : dInI f d (.cell j) κ R ↔ ∃ kvs k, κ[j]? = some (some (.dki kvs)) ∧ keyD d = some k ∧ R (.bl (f (lookI kvs k).isSome)) κ := .rfl
@[simp] theorem e_getI {e : D} : dGetI (.cell j) e κ R ↔ ∃ kvs y v, κ[j]? = some (some (.dki kvs)) ∧ keyD e = some y ∧ lookI kvs y = some v ∧ R v κ := .rfl
@[simp] theorem e_subI {d : D} : aSubI t u d ρ κ RG ↔ t ρ κ fun o κ1 => u ρ κ1 fun i κ2 => match o with
  | .cell k => ∃ kvs y, κ2[k]? = some (some (.dki kvs)) ∧ keyD i = some y ∧ kvs.length ≤ 1000000 ∧ RG ρ (κ2.set k (some (.dki (putI kvs y d))))
  | _ => False := .rfl
@[simp] theorem e_ext : aExt t u ρ κ R ↔ t ρ κ fun d κ1 => match d with
  | .cell k => (∃ ds, κ1[k]? = some (some (.lst ds))) ∧ u ρ κ1 fun e κ2 => ∃ ds es, κ2[k]? = some (some (.lst ds)) ∧ lstOf κ2 e = some es ∧ ds.length + es.length ≤ 16777216 ∧ R .non (κ2.set k (some (.lst (ds ++ es))))
  | _ => False := .rfl
@[simp] theorem keyD_int {i : Int} : keyD (.int i) = some (.inl i) := rfl
@[simp] theorem keyD_str {x : Str} : keyD (.str x) = some (.inr x) := rfl
end
end PD
set_option Elab.async false
set_option linter.all false
set_option maxRecDepth 100000
set_option maxHeartbeats 4000000
/-! The bag, the draw and the drawn council, which most laws share. -/
namespace PD
open PySem PySem.Spec PyProof.Rows L2
abbrev c_law_take : Con := c_take
def c_law_bag : Con := fun ds κ R => ∃ ns : List Int, ds = [.scr ns] ∧ ns.length ≤ 63 ∧ ∀ c, BagC c → R (.cell κ.length) (κ ++ [some c])
def c_law_council : Con := fun ds κ R => ∃ (k : Nat) (width most : Int), ds = [.cell k, .int width, .int most] ∧ Bg k κ κ ∧ 1 ≤ width ∧ width ≤ 6 ∧ 2 ≤ most ∧ most ≤ 7 ∧
  ∀ (ws qs : List Int) κ', Bg k κ κ' → 2 ≤ ws.length → (ws.length : Int) ≤ most → (∀ w ∈ ws, 1 ≤ w ∧ w ≤ 1000000) → (qs.length : Int) = width → (∀ q ∈ qs, 1 ≤ q ∧ q ≤ ws.sum) → R (.tup [lN ws, lN qs]) κ'
abbrev N_law_take : List Str := ["bag", "many", "cell", "value", "first", "second"]
abbrev P_law_take : List Str := ["bag", "many"]
@[reducible] def t_law_take : AS :=
  (aSeq (aIfS (aTest (aOp dEq (aOp dIx (aVar 0) (aC (.int 0))) (aC (.int 0)))) (aSeq (aAsg (aC (.int 0)) (aName 2))
  (aSeq (aIfS (aTest (aOp dLt (aOp dIx (aVar 0) (aC (.int 2))) (aCB dLen (aCons (aOp dIx (aVar 0) (aC (.int 3))) aNil)))) (aAsg (aOp dIx (aOp dIx (aVar 0) (aC (.int 3))) (aOp dIx (aVar 0) (aC (.int 2)))) (aName 2)) aNext)
  (aSeq (aAugS iAdd (aVar 0) (aC (.int 2)) (aC (.int 1)))
  (aSeq (aIfS (aTest (aOp dGe (aVar 2) (aC (.int 1000000000000000000)))) (aAsg (aVar 2) (aSub (aVar 0) (aC (.int 0)))) aNext)
  (aAsg (aOp dMod (aOp dAdd (aOp dAdd (aOp dMul (aOp dIx (aVar 0) (aC (.int 1))) (aC (.int 48271))) (aOp dMod (aVar 2) (aC (.int 2147483647)))) (aOp dMul (aC (.int 7919)) (aOp dIx (aVar 0) (aC (.int 2))))) (aC (.int 2147483647))) (aSub (aVar 0) (aC (.int 1)))))))) aNext)
  (aSeq (aIfS (aTest (aOp dGt (aOp dIx (aVar 0) (aC (.int 0))) (aC (.int 0)))) (aSeq (aAsg (aOp dMod (aOp dIx (aVar 0) (aC (.int 0))) (aVar 1)) (aName 3))
  (aSeq (aAsg (aOp dDiv (aOp dIx (aVar 0) (aC (.int 0))) (aVar 1)) (aSub (aVar 0) (aC (.int 0))))
  (aRet (aVar 3)))) aNext)
  (aSeq (aAsg (aOp dMod (aOp dMul (aOp dAdd (aOp dIx (aVar 0) (aC (.int 1))) (aC (.int 1))) (aC (.int 39373))) (aC (.int 1000000007))) (aName 4))
  (aSeq (aAsg (aOp dMod (aOp dMul (aOp dMod (aOp dMul (aVar 4) (aVar 4)) (aC (.int 998244353))) (aC (.int 30011))) (aC (.int 998244353))) (aName 5))
  (aSeq (aIfS (aTest (aOp dGt (aVar 1) (aC (.int 1000000)))) (aRet (aOp dMod (aOp dAdd (aOp dMul (aVar 5) (aC (.int 1000000007))) (aVar 4)) (aVar 1))) aNext)
  (aRet (aOp dMod (aOp dDiv (aVar 5) (aC (.int 7))) (aVar 1))))))))
abbrev N_law_bag : List Str := ["script", "cell"]
abbrev P_law_bag : List Str := ["script"]
@[reducible] def t_law_bag : AS :=
  (aRet (aCell (aLst (aCons (aC (.int 0)) (aCons (aC (.int 1234567891)) (aCons (aC (.int 0)) (aCons (aData (aComp (aIt (aSl (aVar 0) aNoPart (aPart (aC (.int 63))))) (aName 1) aYes (aCB dAbs (aCons (aVar 1) aNil)) [1])) aNil)))))))
abbrev N_law_council : List Str := ["bag", "width", "most", "seats", "way", "weights", "k", "total", "quotas", "column", "some"]
abbrev P_law_council : List Str := ["bag", "width", "most"]
@[reducible] def t_law_council : AS :=
  (aSeq (aAsg (aTup (aCons (aOp dAdd (aC (.int 2)) (aCB c_law_take (aCons (aVar 0) (aCons (aOp dSub (aVar 2) (aC (.int 1))) aNil)))) (aCons (aCB c_law_take (aCons (aVar 0) (aCons (aC (.int 5)) aNil))) aNil))) (aGTup 2 (aGCons (aName 3) (aGCons (aName 4) aGNil))))
  (aSeq (aAsg (aData (aComp (aRng1 (aCons (aVar 3) aNil)) (aName 6) aYes (aOp dAdd (aC (.int 1)) (aCB c_law_take (aCons (aVar 0) (aCons (aOp dIx (aData (aLst (aCons (aC (.int 1)) (aCons (aC (.int 1)) (aCons (aC (.int 2)) (aCons (aC (.int 5)) (aCons (aC (.int 1000000)) aNil))))))) (aVar 4)) aNil)))) [6])) (aName 5))
  (aSeq (aAsg (aCB dSum (aCons (aVar 5) aNil)) (aName 7))
  (aSeq (aAsg (aCell (aLst aNil)) (aName 8))
  (aSeq (aFor (aRng1 (aCons (aVar 1) aNil)) (aName 9)
  (aSeq (aAsg (aData (aLst (aCons (aOp dAdd (aOp dDiv (aVar 7) (aC (.int 2))) (aC (.int 1))) (aCons (aOp dAdd (aC (.int 1)) (aCB c_law_take (aCons (aVar 0) (aCons (aVar 7) aNil)))) (aCons (aC (.int 1)) (aCons (aVar 7) aNil)))))) (aName 10))
  (aDrop (aApp (aVar 8) (aOp dIx (aVar 10) (aOp dMul (aCB dMax (aCons (aC (.int 0)) (aCons (aOp dSub (aCB c_law_take (aCons (aVar 0) (aCons (aC (.int 6)) aNil))) (aC (.int 2))) aNil))) (aCB dInt (aCons (aOp dGt (aVar 4) (aC (.int 0))) aNil))))))))
  (aFrzV 8 (aRet (aTup (aCons (aVar 5) (aCons (aVar 8) aNil))))))))))
theorem l_law_take : ∀ ds κ R, c_law_take ds κ R → ds.length = P_law_take.length := by
  rintro ds κ R ⟨k, m, rfl, _⟩
  rfl
theorem l_law_bag : ∀ ds κ R, c_law_bag ds κ R → ds.length = P_law_bag.length := by
  rintro ds κ R ⟨ns, rfl, _⟩
  rfl
theorem b_law_bag : Body N_law_bag t_law_bag c_law_bag := by
  rintro ds κ R co ⟨ns, rfl, hn, h⟩
  simp [start, List.replicate]
  have e : cutD (ns.map D.int) none (some 63) = ns.map D.int := by
    have := cut_hi (ds := ns.map D.int) (n := 63)
    rw [show ((63 : Nat) : Int) = 63 from rfl] at this
    rw [this, List.take_of_length_le (by simpa using hn)]
  rw [e]
  refine comp_pure (b := fun i : Int => D.int (if i < 0 then -i else i)) (by omega) (fun i _ Z hz => ?_) ?_
  · simp [dAbs]
    exact hz
  · left
    refine h _ ⟨0, 1234567891, 0, ns.map fun i => if i < 0 then -i else i, ?_⟩
    simp
theorem b_law_take : Body N_law_take t_law_take c_law_take := by
  rintro ds κ R co ⟨k, m, rfl, b, h0, h1, h⟩
  have hm : ∀ i : Int, 0 ≤ i % m ∧ i % m < m := fun i => ⟨Int.emod_nonneg i (by omega), Int.emod_lt_of_pos i h0⟩
  have fin : ∀ v κ', Bg k κ κ' → 0 ≤ v → v < m → Fin κ R (.int v) κ' := fun v κ' b' g1 g2 => .inl (h v κ' b' g1 g2)
  refine seq_cut (fun ρ' κ' => Bg k κ κ' ∧ ∃ x, ρ' = [some (.cell k), some (.int m), x, none, none, none]) (fun Z hZ => ?_) ?_
  · obtain ⟨c, e, a, b', n, ns, rfl⟩ := b.get
    have hl := (List.getElem?_eq_some_iff.mp e).1
    have hs := fun c : Option Ce => List.getElem?_set_self (l := κ) (a := c) hl
    have hz : ∀ (x : Option D) (a' b' : Int) (n : Nat), Z [some (.cell k), some (.int m), x, none, none, none] (κ.set k (some (.lst [.int a', .int b', .int (n : Nat), .lst (ns.map D.int)]))) := fun x a' b' n => hZ _ _ ⟨b.set ⟨a', b', n, ns, rfl⟩, x, rfl⟩
    have hz' : ∀ (x : Option D) (a' b' : Int) (n : Nat), Z [some (.cell k), some (.int m), x, none, none, none] (κ.set k (some (.lst [.int a', .int b', .int ((n : Nat) + 1), .lst (ns.map D.int)]))) := fun x a' b' n => hz x a' b' (n + 1)
    simp [-Bool.exists_bool, start, List.replicate, itAt_cell e, e, ixN, itAt_set hl, hs]
    by_cases ha : a = 0
    · rw [if_pos ha]
      by_cases hn : n < ns.length
      · rw [if_pos hn]
        refine ⟨_, atI_map hn, ?_⟩
        simp [-Bool.exists_bool, itAt_cell e, e, ixN, itAt_set hl, hs]
        split
        · exact hz' _ _ _ _
        · exact hz' _ _ _ _
      · rw [if_neg hn]
        exact hz' _ _ _ _
    · rw [if_neg ha]
      exact hZ _ _ ⟨b, _, rfl⟩
  · rintro ρ' κ' ⟨b', x, rfl⟩
    obtain ⟨c, e, a, b1, n, ns, rfl⟩ := b'.get
    simp [-Bool.exists_bool, start, List.replicate, itAt_cell e, e, ixN]
    split
    · exact ⟨h0, cdivw h0 h1, fin _ _ (b'.set ⟨_, _, _, _, rfl⟩) (hm _).1 (hm _).2⟩
    · refine ⟨.inl (.inl ⟨by omega, by omega⟩), ?_⟩
      split
      · exact ⟨h0, fin _ _ b' (hm _).1 (hm _).2⟩
      · exact ⟨h0, fin _ _ b' (hm _).1 (hm _).2⟩
theorem l_law_council : ∀ ds κ R, c_law_council ds κ R → ds.length = P_law_council.length := by
  rintro ds κ R ⟨k, w, m, rfl, _⟩
  rfl
theorem sum_ge {ws : List Int} (h : ∀ w ∈ ws, 1 ≤ w) : (ws.length : Int) ≤ ws.sum := by
  induction ws with
  | nil => simp
  | cons w ws ih =>
    have h1 := h w (by simp)
    have h2 := ih fun x hx => h x (by simp [hx])
    simp only [List.length_cons, List.sum_cons]
    omega
theorem sum_le {ws : List Int} {m : Int} (h : ∀ w ∈ ws, w ≤ m) : ws.sum ≤ ws.length * m := by
  induction ws with
  | nil => simp
  | cons w ws ih =>
    have h1 := h w (by simp)
    have h2 := ih fun x hx => h x (by simp [hx])
    simp only [List.length_cons, List.sum_cons]
    have : ((ws.length + 1 : Nat) : Int) * m = ws.length * m + m := by
      rw [Int.natCast_add, Int.add_mul]
      simp
    omega
theorem b_law_council : Body N_law_council t_law_council c_law_council := by
  rintro ds κ R co ⟨k, width, most, rfl, b, hw1, hw2, hm1, hm2, h⟩
  simp [-Bool.exists_bool, start, List.replicate]
  refine use_take b (by omega) (by omega) fun v1 κ1 b1 g1 g1' => ?_
  simp [-Bool.exists_bool]
  refine use_take b1 (by omega) (by omega) fun way κ2 b2 g2 g2' => ?_
  refine ⟨by omega, ?_⟩
  refine comp_rng (b := D.int) (fun _ z => 1 ≤ z ∧ z ≤ 1000000) (fun κ' => Bg k κ κ') b2 (by omega) (fun i κ3 hi b3 Z hZ => ?_) ?_
  · rcases (by omega : way = 0 ∨ way = 1 ∨ way = 2 ∨ way = 3 ∨ way = 4) with rfl | rfl | rfl | rfl | rfl <;>
    · simp
      exact use_take b3 (by omega) (by omega) fun v κ4 b4 _ _ => hZ _ _ ⟨by omega, by omega⟩ b4
  · intro ws κ3 hl hw b3
    refine e_sum ?_
    have hw' : ∀ w ∈ ws, 1 ≤ w ∧ w ≤ 1000000 := fun w hm => by
      obtain ⟨j, hj, e⟩ := List.getElem_of_mem hm
      exact hw j w (by rw [List.getElem?_eq_getElem hj, e])
    have s1 := sum_ge fun w hm => (hw' w hm).1
    have s2 := sum_le fun w hm => (hw' w hm).2
    refine ⟨by omega, loop_rng (fun n ρ κ'' => ∃ κ' qs x y, κ'' = κ' ++ [some (.lst (qs.map .int))] ∧ Bg k κ κ' ∧ qs.length = n ∧ (∀ q ∈ qs, 1 ≤ q ∧ q ≤ ws.sum) ∧
      ρ = [some (.cell k), some (.int width), some (.int most), some (.int (2 + v1)), some (.int way), some (.lst (ws.map .int)), none, some (.int ws.sum), some (.cell κ.length), x, y])
      ⟨κ3, [], none, none, rfl, b3, rfl, by simp, by rw [b3.len]⟩ ?_ ?_⟩
    · rintro i _ _ hi ⟨κ4, qs, x, y, rfl, b4, hq, hr, rfl⟩ Z hZ
      simp [-Bool.exists_bool]
      refine use_take_app b4 (by omega) (by omega) fun v2 κ5 b5 g3 g4 => ?_
      simp [-Bool.exists_bool, own_get b5.len]
      refine use_take_app b5 (by omega) (by omega) fun v3 κ6 b6 g5 g6 => ?_
      have fin : ∀ (q : Int) (x y : Option D), 1 ≤ q → q ≤ ws.sum → Z [some (.cell k), some (.int width), some (.int most), some (.int (2 + v1)), some (.int way), some (.lst (ws.map .int)), none, some (.int ws.sum), some (.cell κ.length), x, y] (κ6 ++ [some (.lst (qs.map D.int ++ [D.int q]))]) := fun q x y q1 q2 =>
        hZ _ _ ⟨κ6, qs ++ [q], x, y, by simp, b6, by simp [hq], fun z hz => by
          rcases List.mem_append.mp hz with h | h
          · exact hr z h
          · have : z = q := by simpa using h
            subst this
            exact ⟨q1, q2⟩, rfl⟩
      have hlen : qs.length < 16777216 := by omega
      rcases (by omega : v3 = 0 ∨ v3 = 1 ∨ v3 = 2 ∨ v3 = 3 ∨ v3 = 4 ∨ v3 = 5) with rfl | rfl | rfl | rfl | rfl | rfl <;> by_cases hway : 0 < way <;>
      · simp [hway, dInt, own_get b6.len, own_set b6.len, hlen]
        exact fin _ _ _ (by omega) (by omega)
    · rintro _ _ ⟨κ4, qs, x, y, rfl, b4, hq, hr, rfl⟩
      simp [own_get b4.len, own_set b4.len]
      refine fin_bg b4 co ?_ (h ws qs κ4 b4 (by omega) (by omega) hw' (by omega) hr)
      simp [blw, blws, lN, blws_ints, Ce.data]
end PD
set_option Elab.async false
set_option linter.all false
set_option maxRecDepth 100000
set_option maxHeartbeats 4000000
/-! Kinds, the council, the settlement. -/
namespace PD
open PySem PySem.Spec PyProof.Rows L2
/-! ### the settlement in plain words -/
/-- the first entry at which the weights so far reach q -/
def reach (q : Int) : Int → List (Int × Int) → Option Int
  | _, [] => none
  | r, p :: ps => if q ≤ r + p.2 then some p.1 else reach q (r + p.2) ps
def pick (ws : List Int) (q : Int) (es : List Int) : Int := (reach q 0 (ZC.sortP (es.zip ws))).getD 0
def colOf (rows : List (List Int)) (c : Nat) : List Int := rows.map fun r => r.getD c 0
def outs (ws qs : List Int) (rows : List (List Int)) : List Int := (List.range qs.length).map fun c => pick ws (qs.getD c 0) (colOf rows c)
structure GoodC (ws qs : List Int) : Prop where
  w2 : 2 ≤ ws.length
  w7 : ws.length ≤ 7
  w1 : ∀ w ∈ ws, 1 ≤ w ∧ w ≤ 1000000
  q1 : 1 ≤ qs.length
  q6 : qs.length ≤ 6
  q : ∀ q ∈ qs, 1 ≤ q ∧ q ≤ ws.sum
def cO (ws qs : List Int) : D := .obj "Council" [("seat_weights", lN ws), ("column_quotas", lN qs)]
def sumP : List (Int × Int) → Int
  | [] => 0
  | p :: ps => p.2 + sumP ps
theorem reach_some {q : Int} : ∀ {ps : List (Int × Int)} {r : Int}, r < q → q ≤ r + sumP ps → ∃ v, reach q r ps = some v
  | [], r, h1, h2 => by simp [sumP] at h2; omega
  | p :: ps, r, h1, h2 => by
    unfold reach
    split
    · exact ⟨_, rfl⟩
    · exact reach_some (by omega) (by simp only [sumP] at h2; omega)
theorem sumP_perm {ps qs : List (Int × Int)} (h : ps.Perm qs) : sumP ps = sumP qs := by
  induction h with
  | nil => rfl
  | cons x _ ih => simp only [sumP, ih]
  | swap x y l => simp only [sumP]; omega
  | trans _ _ h1 h2 => exact h1.trans h2
theorem sumP_zip : ∀ {es ws : List Int}, es.length = ws.length → sumP (es.zip ws) = ws.sum
  | [], [], _ => rfl
  | e :: es, w :: ws, h => by
    simp only [List.zip_cons_cons, sumP, List.sum_cons]
    rw [sumP_zip (by simpa using h)]
theorem perm_sortP (ps : List (Int × Int)) : (ZC.sortP ps).Perm ps := List.mergeSort_perm _ _
theorem pick_some {ws es : List Int} {q : Int} (hl : es.length = ws.length) (h0 : 0 < q) (h1 : q ≤ ws.sum) : reach q 0 (ZC.sortP (es.zip ws)) = some (pick ws q es) := by
  obtain ⟨v, e⟩ := reach_some (q := q) (r := 0) (ps := ZC.sortP (es.zip ws)) h0 (by rw [sumP_perm (perm_sortP _), sumP_zip hl]; omega)
  rw [pick, e]
  rfl
/-! ### promises -/
def c_is_integer : Con := fun ds κ R => ∃ i : Int, ds = [.int i] ∧ R (.bl true) κ
def c_is_between : Con := fun ds κ R => ∃ i a b : Int, ds = [.int i, .int a, .int b] ∧ R (.bl (decide (a ≤ i ∧ i ≤ b))) κ
def c_are_weights : Con := fun ds κ R => ∃ ws : List Int, ds = [lN ws] ∧ 2 ≤ ws.length ∧ ws.length ≤ 7 ∧ (∀ w ∈ ws, 1 ≤ w ∧ w ≤ 1000000) ∧ R (.bl true) κ
def c_are_quotas : Con := fun ds κ R => ∃ (qs : List Int) (t : Int), ds = [lN qs, .int t] ∧ 1 ≤ qs.length ∧ qs.length ≤ 6 ∧ (∀ q ∈ qs, 1 ≤ q ∧ q ≤ t) ∧ R (.bl true) κ
def c_Council_init : Con := fun ds κ R => ∃ (k : Nat) (ws qs : List Int), ds = [.cell k, lN ws, lN qs] ∧ κ[k]? = some (some (.obj "Council" [])) ∧ GoodC ws qs ∧ R .non (κ.set k (some (.obj "Council" [("seat_weights", lN ws), ("column_quotas", lN qs)])))
def c_Council_weights : Con := fun ds κ R => ∃ ws qs : List Int, ds = [cO ws qs] ∧ R (lN ws) κ
def c_Council_quotas : Con := fun ds κ R => ∃ ws qs : List Int, ds = [cO ws qs] ∧ R (lN qs) κ
def c_settled : Con := fun ds κ R => ∃ (ws es : List Int) (q : Int), ds = [lN ws, .int q, lN es] ∧ es.length = ws.length ∧ ws.length ≤ 1000 ∧ 0 < q ∧ q ≤ ws.sum ∧ R (.int (pick ws q es)) κ
def c_settle : Con := fun ds κ R => ∃ (ws qs : List Int) (rows : List (List Int)), ds = [cO ws qs, .lst (rows.map tI)] ∧ GoodC ws qs ∧ rows.length = ws.length ∧ (∀ r ∈ rows, r.length = qs.length) ∧ R (tI (outs ws qs rows)) κ
abbrev N_is_integer : List Str := ["thing"]
abbrev P_is_integer : List Str := ["thing"]
@[reducible] def t_is_integer : AS :=
  (aRet (aAndV (aCB dIsi (aCons (aVar 0) (aCons (aC (.ty "int")) aNil))) (aNotV (aCB dIsi (aCons (aVar 0) (aCons (aC (.ty "bool")) aNil))))))
abbrev N_is_between : List Str := ["thing", "least", "greatest"]
abbrev P_is_between : List Str := ["thing", "least", "greatest"]
@[reducible] def t_is_between : AS :=
  (aRet (aAndV (aCB c_is_integer (aCons (aVar 0) aNil)) (aChain dLe dLe (aVar 1) (aVar 0) (aVar 2))))
abbrev N_are_weights : List Str := ["thing", "weight"]
abbrev P_are_weights : List Str := ["thing"]
@[reducible] def t_are_weights : AS :=
  (aSeq (aIfS (aOrT (aNotT (aTest (aCB dIsi (aCons (aVar 0) (aCons (aC (.ty "list")) aNil))))) (aNotT (aTest (aChain dLe dLe (aC (.int 2)) (aCB dLen (aCons (aVar 0) aNil)) (aC (.int 7)))))) (aRet (aC (.bl false))) aNext)
  (aRet (aCB dAll (aCons (aData (aComp (aIt (aVar 0)) (aName 1) aYes (aCB c_is_between (aCons (aVar 1) (aCons (aC (.int 1)) (aCons (aC (.int 1000000)) aNil)))) [1])) aNil))))
abbrev N_are_quotas : List Str := ["thing", "total", "quota"]
abbrev P_are_quotas : List Str := ["thing", "total"]
@[reducible] def t_are_quotas : AS :=
  (aSeq (aIfS (aOrT (aNotT (aTest (aCB dIsi (aCons (aVar 0) (aCons (aC (.ty "list")) aNil))))) (aNotT (aTest (aChain dLe dLe (aC (.int 1)) (aCB dLen (aCons (aVar 0) aNil)) (aC (.int 6)))))) (aRet (aC (.bl false))) aNext)
  (aRet (aCB dAll (aCons (aData (aComp (aIt (aVar 0)) (aName 2) aYes (aCB c_is_between (aCons (aVar 2) (aCons (aC (.int 1)) (aCons (aVar 1) aNil)))) [2])) aNil))))
abbrev N_Council_init : List Str := ["self", "weights", "quotas"]
abbrev P_Council_init : List Str := ["self", "weights", "quotas"]
@[reducible] def t_Council_init : AS :=
  (aSeq (aIfS (aNotT (aTest (aCB c_are_weights (aCons (aVar 1) aNil)))) aNever aNext)
  (aSeq (aIfS (aNotT (aTest (aCB c_are_quotas (aCons (aVar 2) (aCons (aCB dSum (aCons (aVar 1) aNil)) aNil))))) aNever aNext)
  (aSeq (aSetF "Council" "seat_weights" (aVar 0) (aData (aList (aVar 1))))
  (aSetF "Council" "column_quotas" (aVar 0) (aData (aList (aVar 2)))))))
abbrev N_Council_weights : List Str := ["self"]
abbrev P_Council_weights : List Str := ["self"]
@[reducible] def t_Council_weights : AS :=
  (aRet (aData (aList (aFld "Council" "seat_weights" (aVar 0)))))
abbrev N_Council_quotas : List Str := ["self"]
abbrev P_Council_quotas : List Str := ["self"]
@[reducible] def t_Council_quotas : AS :=
  (aRet (aData (aList (aFld "Council" "column_quotas" (aVar 0)))))
abbrev N_settled : List Str := ["weights", "quota", "entries", "reached", "found", "entry", "weight"]
abbrev P_settled : List Str := ["weights", "quota", "entries"]
@[reducible] def t_settled : AS :=
  (aSeq (aAsg (aC (.int 0)) (aName 3))
  (aSeq (aAsg (aC .non) (aName 4))
  (aSeq (aFor (aIt (aSortZ (aCons (aVar 2) (aCons (aVar 0) aNil)))) (aGTup 2 (aGCons (aName 5) (aGCons (aName 6) aGNil)))
  (aIfS (aTest (aOp dIsN (aVar 4) (aC .non))) (aSeq (aAug 3 iAdd (aVar 6))
  (aIfS (aTest (aOp dGe (aVar 3) (aVar 1))) (aAsg (aVar 5) (aName 4)) aNext)) aNext))
  (aRet (aVar 4)))))
abbrev N_settle : List Str := ["council", "rows", "weights", "made", "column", "quota", "row"]
abbrev P_settle : List Str := ["council", "rows"]
@[reducible] def t_settle : AS :=
  (aSeq (aAsg (aMeth "Council" "weights" c_Council_weights (aVar 0) aNil) (aName 2))
  (aSeq (aAsg (aCell (aLst aNil)) (aName 3))
  (aSeq (aFor (aEnum (aCons (aMeth "Council" "quotas" c_Council_quotas (aVar 0) aNil) aNil)) (aGTup 2 (aGCons (aName 4) (aGCons (aName 5) aGNil)))
  (aDrop (aApp (aVar 3) (aCB c_settled (aCons (aVar 2) (aCons (aVar 5) (aCons (aData (aComp (aIt (aVar 1)) (aName 6) aYes (aOp dIx (aVar 6) (aVar 4)) [6])) aNil)))))))
  (aFrzV 3 (aRet (aCB dTuple (aCons (aVar 3) aNil)))))))
theorem l_is_integer : ∀ ds κ R, c_is_integer ds κ R → ds.length = P_is_integer.length := by
  rintro ds κ R ⟨_, rfl, _⟩
  rfl
theorem l_is_between : ∀ ds κ R, c_is_between ds κ R → ds.length = P_is_between.length := by
  rintro ds κ R ⟨_, _, _, rfl, _⟩
  rfl
theorem l_are_weights : ∀ ds κ R, c_are_weights ds κ R → ds.length = P_are_weights.length := by
  rintro ds κ R ⟨_, rfl, _⟩
  rfl
theorem l_are_quotas : ∀ ds κ R, c_are_quotas ds κ R → ds.length = P_are_quotas.length := by
  rintro ds κ R ⟨_, _, rfl, _⟩
  rfl
theorem l_Council_init : ∀ ds κ R, c_Council_init ds κ R → ds.length = P_Council_init.length := by
  rintro ds κ R ⟨_, _, _, rfl, _⟩
  rfl
theorem l_Council_weights : ∀ ds κ R, c_Council_weights ds κ R → ds.length = P_Council_weights.length := by
  rintro ds κ R ⟨_, _, rfl, _⟩
  rfl
theorem l_Council_quotas : ∀ ds κ R, c_Council_quotas ds κ R → ds.length = P_Council_quotas.length := by
  rintro ds κ R ⟨_, _, rfl, _⟩
  rfl
theorem l_settled : ∀ ds κ R, c_settled ds κ R → ds.length = P_settled.length := by
  rintro ds κ R ⟨_, _, _, rfl, _⟩
  rfl
theorem l_settle : ∀ ds κ R, c_settle ds κ R → ds.length = P_settle.length := by
  rintro ds κ R ⟨_, _, _, rfl, _⟩
  rfl
/-! ### bodies -/
@[simp] theorem e_isiI {κ : Cs} {R : D → Cs → Prop} {i : Int} {n : String} : dIsi [.int i, .ty n] κ R ↔ ∃ b, kitB "int" n = some b ∧ R (.bl b) κ := by
  simp [dIsi, tyD]
@[simp] theorem e_isiL {κ : Cs} {R : D → Cs → Prop} {i : List D} {n : String} : dIsi [.lst i, .ty n] κ R ↔ ∃ b, kitB "list" n = some b ∧ R (.bl b) κ := by
  simp [dIsi, tyD]
theorem k_int_int : kitB "int" "int" = some true := by decide +kernel
theorem k_int_bool : kitB "int" "bool" = some false := by decide +kernel
theorem k_list_list : kitB "list" "list" = some true := by decide +kernel
theorem b_is_integer : Body N_is_integer t_is_integer c_is_integer := by
  rintro ds κ R co ⟨i, rfl, h⟩
  simp [-Bool.exists_bool, start, k_int_int, k_int_bool]
  exact .inl h
theorem b_is_between : Body N_is_between t_is_between c_is_between := by
  rintro ds κ R co ⟨i, a, b, rfl, h⟩
  simp [-Bool.exists_bool, start]
  refine ⟨i, rfl, ?_⟩
  simp [-Bool.exists_bool]
  split
  · rename_i q
    exact .inl (by simpa [q] using h)
  · rename_i q
    exact .inl (by simpa [q] using h)
theorem all_map {α : Type} {f : α → Bool} {xs : List α} (h : ∀ x ∈ xs, f x = true) : (xs.map f).all id = true := by
  simpa using h
theorem b_are_weights : Body N_are_weights t_are_weights c_are_weights := by
  rintro ds κ R co ⟨ws, rfl, h1, h2, h3, h⟩
  simp [-Bool.exists_bool, start, lN, k_list_list]
  rw [if_pos (by omega), if_pos (by omega)]
  refine comp_pure (b := fun i : Int => D.bl (decide (1 ≤ i ∧ i ≤ 1000000))) (by omega) (fun i hi Z hz => ?_) ?_
  · simp [-Bool.exists_bool]
    exact ⟨i, 1, 1000000, rfl, hz⟩
  · have := e_all (bs := ws.map fun i : Int => decide (1 ≤ i ∧ i ≤ 1000000)) (κ := κ) (R := Fin κ R) (by
      rw [all_map fun w hw => by simpa using h3 w hw]
      exact .inl h)
    rw [List.map_map] at this
    exact this
theorem b_are_quotas : Body N_are_quotas t_are_quotas c_are_quotas := by
  rintro ds κ R co ⟨qs, t, rfl, h1, h2, h3, h⟩
  simp [-Bool.exists_bool, start, lN, k_list_list, List.replicate]
  rw [if_pos (by omega), if_pos (by omega)]
  refine comp_pure (b := fun i : Int => D.bl (decide (1 ≤ i ∧ i ≤ t))) (by omega) (fun i hi Z hz => ?_) ?_
  · simp [-Bool.exists_bool]
    exact ⟨i, 1, t, rfl, hz⟩
  · have := e_all (bs := qs.map fun i : Int => decide (1 ≤ i ∧ i ≤ t)) (κ := κ) (R := Fin κ R) (by
      rw [all_map fun w hw => by simpa using h3 w hw]
      exact .inl h)
    rw [List.map_map] at this
    exact this
theorem putD1 {f : Str} {d : D} : putD f d [] = [(f, d)] := rfl
theorem putD2 {d e : D} : putD ("column_quotas" : Str) d [(("seat_weights" : Str), e)] = [(("seat_weights" : Str), e), (("column_quotas" : Str), d)] := rfl
theorem b_Council_init : Body N_Council_init t_Council_init c_Council_init := by
  rintro ds κ R co ⟨k, ws, qs, rfl, e, g, h⟩
  have hl := (List.getElem?_eq_some_iff.mp e).1
  have hs := fun c : Option Ce => List.getElem?_set_self (l := κ) (a := c) hl
  simp [-Bool.exists_bool, start]
  refine ⟨ws, rfl, g.w2, g.w7, g.w1, ?_⟩
  simp [-Bool.exists_bool, lN]
  refine ⟨qs, _, rfl, g.q1, g.q6, g.q, ?_⟩
  simp [-Bool.exists_bool, e, putD1, hs, putD2]
  exact .inl h
theorem lk1 {a b : D} : List.lookup ("seat_weights" : Str) [(("seat_weights" : Str), a), (("column_quotas" : Str), b)] = some a := rfl
theorem lk2 {a b : D} : List.lookup ("column_quotas" : Str) [(("seat_weights" : Str), a), (("column_quotas" : Str), b)] = some b := rfl
theorem lk3 {a b : D} : List.lookup ("weights" : Str) [(("seat_weights" : Str), a), (("column_quotas" : Str), b)] = none := rfl
theorem lk4 {a b : D} : List.lookup ("quotas" : Str) [(("seat_weights" : Str), a), (("column_quotas" : Str), b)] = none := rfl
theorem b_Council_weights : Body N_Council_weights t_Council_weights c_Council_weights := by
  rintro ds κ R co ⟨ws, qs, rfl, h⟩
  simp [-Bool.exists_bool, start, cO, lN, lk1]
  exact .inl h
theorem b_Council_quotas : Body N_Council_quotas t_Council_quotas c_Council_quotas := by
  rintro ds κ R co ⟨ws, qs, rfl, h⟩
  simp [-Bool.exists_bool, start, cO, lN, lk2]
  exact .inl h
theorem b_settled : Body N_settled t_settled c_settled := by
  rintro ds κ R co ⟨ws, es, q, rfl, hl, hn, h0, h1, h⟩
  simp [-Bool.exists_bool, start, lN, List.replicate]
  refine ⟨es, rfl, ws, rfl, by omega, ?_⟩
  have hp := pick_some hl h0 h1
  refine loop_map (fun ps ρ κ' => κ' = κ ∧ ∃ x y, (∃ r, reach q r ps = some (pick ws q es) ∧ ρ = [some (.lst (ws.map .int)), some (.int q), some (.lst (es.map .int)), some (.int r), some .non, x, y]) ∨
    (∃ r, ρ = [some (.lst (ws.map .int)), some (.int q), some (.lst (es.map .int)), some (.int r), some (.int (pick ws q es)), x, y])) ⟨rfl, _, _, .inl ⟨_, hp, rfl⟩⟩ ?_ ?_
  · rintro p ps ρ κ' ⟨rfl, x, y, ⟨r, e, rfl⟩ | ⟨r, rfl⟩⟩ Z hZ
    · simp [-Bool.exists_bool, eP]
      unfold reach at e
      split
      · rename_i hq
        rw [if_pos hq] at e
        rw [Option.some.inj e]
        exact hZ _ _ ⟨rfl, _, _, .inr ⟨_, rfl⟩⟩
      · rename_i hq
        rw [if_neg hq] at e
        exact hZ _ _ ⟨rfl, _, _, .inl ⟨_, e, rfl⟩⟩
    · simp [-Bool.exists_bool, eP]
      exact hZ _ _ ⟨rfl, _, _, .inr ⟨_, rfl⟩⟩
  · rintro ρ κ' ⟨rfl, x, y, ⟨r, e, rfl⟩ | ⟨r, rfl⟩⟩
    · cases e
    · simp [-Bool.exists_bool]
      exact .inl h
theorem blws_map {α : Type} {f : α → D} (n : Nat) (h : ∀ x, blw n (f x) = true) : ∀ xs : List α, blws n (xs.map f) = true
  | [] => rfl
  | x :: xs => by rw [List.map_cons, blws, h x, blws_map n h xs]; rfl
theorem b_settle : Body N_settle t_settle c_settle := by
  rintro ds κ R co ⟨ws, qs, rows, rfl, g, hl, hr, h⟩
  simp [-Bool.exists_bool, start, cO, List.replicate, -List.lookup_eq_none_iff, lk3, lk4]
  refine ⟨ws, qs, rfl, ?_⟩
  simp [-Bool.exists_bool, -List.lookup_eq_none_iff, lk3, lk4]
  refine ⟨ws, qs, rfl, ?_⟩
  simp [-Bool.exists_bool, lN]
  rw [enumD_map (0 : Int)]
  have hc : ∀ c, (colOf rows c).length = ws.length := fun c => by rw [colOf, List.length_map, hl]
  refine loop_ran (fun n ρ κ' => κ' = κ ++ [some (.lst ((List.range n).map fun c => D.int (pick ws (qs.getD c 0) (colOf rows c))))] ∧ ∃ x y, ρ = [some (cO ws qs), some (.lst (rows.map tI)), some (lN ws), some (.cell κ.length), x, y, none]) ⟨rfl, _, _, rfl⟩ ?_ ?_
  · rintro i ρ κ' hi ⟨rfl, x, y, rfl⟩ Z hZ
    simp [-Bool.exists_bool, own_get rfl, -List.getD_eq_getElem?_getD]
    refine comp_pure (b := fun r : List Int => D.int (r.getD i 0)) (by have := g.w7; omega) (fun r hm Z hz => ?_) ?_
    · have hi' : i < r.length := by rw [hr r hm]; exact hi
      simp [-Bool.exists_bool, tI, -List.getD_eq_getElem?_getD]
      refine ⟨_, atI_map hi', ?_⟩
      rw [getD_lt hi'] at hz
      exact hz
    · have hq := g.q (qs.getD i 0) (by rw [getD_lt hi]; exact List.getElem_mem hi)
      refine ⟨ws, colOf rows i, qs.getD i 0, ?_, hc i, by have := g.w7; omega, by omega, hq.2, ?_⟩
      · simp [lN, colOf]
      · simp [-Bool.exists_bool, own_get rfl, own_set rfl, -List.getD_eq_getElem?_getD]
        refine ⟨by have := g.q6; omega, hZ _ _ ⟨?_, _, _, rfl⟩⟩
        rw [List.range_succ, List.map_append]
        rfl
  · rintro ρ κ' ⟨rfl, x, y, rfl⟩
    simp [-Bool.exists_bool, own_get rfl, own_set rfl, -List.getD_eq_getElem?_getD, Ce.data]
    refine fin_app co ?_ ?_
    · simp only [blw]
      exact blws_map _ (fun _ => rfl) _
    · have e : tI (outs ws qs rows) = .tup ((List.range qs.length).map fun c => D.int (pick ws (qs.getD c 0) (colOf rows c))) := by
        rw [tI, outs, List.map_map]
        rfl
      rw [← e]
      exact h
end PD
set_option Elab.async false
set_option linter.all false
set_option maxRecDepth 100000
set_option maxHeartbeats 4000000
/-! The plain law of the settlement: the pick is the least entry whose weight below reaches the quota. -/
namespace PD
/-- the weight of the entries that are not above u -/
def Wt : List (Int × Int) → Int → Int
  | [], _ => 0
  | p :: ps, u => (if p.1 ≤ u then p.2 else 0) + Wt ps u
theorem Wt_perm {ps qs : List (Int × Int)} (h : ps.Perm qs) (u : Int) : Wt ps u = Wt qs u := by
  induction h with
  | nil => rfl
  | cons x _ ih => simp only [Wt, ih]
  | swap x y l => simp only [Wt]; omega
  | trans _ _ h1 h2 => exact h1.trans h2
theorem Wt_nonneg {ps : List (Int × Int)} (h : ∀ p ∈ ps, 0 ≤ p.2) (u : Int) : 0 ≤ Wt ps u := by
  induction ps with
  | nil => exact Int.le_refl _
  | cons p ps ih =>
    have h1 := h p (by simp)
    have h2 := ih fun x hx => h x (by simp [hx])
    simp only [Wt]
    split <;> omega
theorem Wt_none {ps : List (Int × Int)} {u : Int} (h : ∀ p ∈ ps, u < p.1) : Wt ps u = 0 := by
  induction ps with
  | nil => rfl
  | cons p ps ih =>
    have h1 := h p (by simp)
    simp only [Wt]
    rw [if_neg (by omega), ih fun x hx => h x (by simp [hx])]
    omega
theorem Wt_mono {ps : List (Int × Int)} (h : ∀ p ∈ ps, 0 ≤ p.2) {u v : Int} (huv : u ≤ v) : Wt ps u ≤ Wt ps v := by
  induction ps with
  | nil => exact Int.le_refl _
  | cons p ps ih =>
    have h1 := h p (by simp)
    have h2 := ih fun x hx => h x (by simp [hx])
    simp only [Wt]
    split <;> split <;> omega
theorem reach_spec {q : Int} : ∀ {ps : List (Int × Int)} {r v : Int}, ps.Pairwise (fun a b => a.1 ≤ b.1) → (∀ p ∈ ps, 0 ≤ p.2) → r < q → reach q r ps = some v → q ≤ r + Wt ps v ∧ (∀ u, u < v → r + Wt ps u < q) ∧ ∃ p ∈ ps, p.1 = v
  | [], r, v, _, _, _, e => by cases e
  | p :: ps, r, v, hs, hn, hr, e => by
    have hp := hn p (by simp)
    have hps : ∀ p ∈ ps, 0 ≤ p.2 := fun x hx => hn x (by simp [hx])
    rw [List.pairwise_cons] at hs
    unfold reach at e
    split at e
    · rename_i hq
      cases e
      refine ⟨?_, fun u hu => ?_, p, by simp, rfl⟩
      · have := Wt_nonneg hps p.1
        simp only [Wt]
        rw [if_pos (Int.le_refl _)]
        omega
      · rw [Wt_none (u := u)]
        · omega
        · intro x hx
          rcases List.mem_cons.mp hx with h | h
          · subst h; exact hu
          · exact Int.lt_of_lt_of_le hu (hs.1 x h)
    · rename_i hq
      obtain ⟨h1, h2, x, hx, ex⟩ := reach_spec hs.2 hps (by omega) e
      have hv : p.1 ≤ v := by rw [← ex]; exact hs.1 x hx
      refine ⟨?_, fun u hu => ?_, x, by simp [hx], ex⟩
      · simp only [Wt]
        rw [if_pos hv]
        omega
      · have := h2 u hu
        simp only [Wt]
        split <;> omega
theorem leP_tr (a b c : Int × Int) (h1 : ZC.leP a b = true) (h2 : ZC.leP b c = true) : ZC.leP a c = true := by
  simp only [ZC.leP, decide_eq_true_eq] at *
  omega
theorem leP_tot (a b : Int × Int) : (ZC.leP a b || ZC.leP b a) = true := by
  simp only [ZC.leP, Bool.or_eq_true, decide_eq_true_eq]
  omega
theorem sortP_sorted (ps : List (Int × Int)) : (ZC.sortP ps).Pairwise fun a b => a.1 ≤ b.1 := by
  have h := List.pairwise_mergeSort (le := ZC.leP) leP_tr leP_tot ps
  refine h.imp fun {a b} q => ?_
  simp only [ZC.leP, decide_eq_true_eq] at q
  omega
theorem zip_nonneg {es ws : List Int} (h : ∀ w ∈ ws, 1 ≤ w) : ∀ p ∈ es.zip ws, 0 ≤ p.2 := fun p hp => by
  have := h p.2 (List.of_mem_zip (a := p.1) (b := p.2) hp).2
  omega
theorem pick_spec {ws es : List Int} {q : Int} (hl : es.length = ws.length) (hw : ∀ w ∈ ws, 1 ≤ w) (h0 : 0 < q) (h1 : q ≤ ws.sum) : q ≤ Wt (es.zip ws) (pick ws q es) ∧ ∀ u, u < pick ws q es → Wt (es.zip ws) u < q := by
  obtain ⟨h2, h3, _⟩ := reach_spec (sortP_sorted _) (fun p hp => zip_nonneg hw p ((perm_sortP _).mem_iff.mp hp)) h0 (pick_some hl h0 h1)
  rw [Wt_perm (perm_sortP _)] at h2
  refine ⟨by omega, fun u hu => ?_⟩
  have := h3 u hu
  rw [Wt_perm (perm_sortP _)] at this
  omega
theorem pick_le {ws es : List Int} {q u : Int} (hl : es.length = ws.length) (hw : ∀ w ∈ ws, 1 ≤ w) (h0 : 0 < q) (h1 : q ≤ ws.sum) (h : q ≤ Wt (es.zip ws) u) : pick ws q es ≤ u := by
  apply Int.not_lt.mp
  intro hu
  have := (pick_spec hl hw h0 h1).2 u hu
  omega
theorem pick_ge {ws es : List Int} {q u : Int} (hl : es.length = ws.length) (hw : ∀ w ∈ ws, 1 ≤ w) (h0 : 0 < q) (h1 : q ≤ ws.sum) (h : Wt (es.zip ws) u < q) : u < pick ws q es := by
  apply Int.not_le.mp
  intro hu
  have := (pick_spec hl hw h0 h1).1
  have := Wt_mono (zip_nonneg (es := es) hw) hu
  omega
/-- one entry's part of the weight -/
theorem Wt_at : ∀ {es ws : List Int} {s : Nat} (hs : s < es.length) (hl : es.length = ws.length) (hw : ∀ w ∈ ws, 1 ≤ w) (u : Int),
    ∃ r, 0 ≤ r ∧ r ≤ ws.sum - ws[s]'(by omega) ∧ Wt (es.zip ws) u = (if es[s] ≤ u then ws[s]'(by omega) else 0) + r
  | e :: es, w :: ws, 0, hs, hl, hw, u => by
    have hws : ∀ w ∈ ws, 1 ≤ w := fun x hx => hw x (by simp [hx])
    refine ⟨Wt (es.zip ws) u, Wt_nonneg (zip_nonneg hws) u, ?_, by simp [Wt]⟩
    have : Wt (es.zip ws) u ≤ ws.sum := by
      have := sumP_zip (es := es) (ws := ws) (by simpa using hl)
      rw [← this]
      have hn := zip_nonneg (es := es) hws
      generalize es.zip ws = ps at hn
      induction ps with
      | nil => exact Int.le_refl _
      | cons p ps ih =>
        have h1 := hn p (by simp)
        have h2 := ih fun x hx => hn x (by simp [hx])
        simp only [Wt, sumP]
        split <;> omega
    simp only [List.sum_cons, List.getElem_cons_zero]
    omega
  | e :: es, w :: ws, s + 1, hs, hl, hw, u => by
    have hws : ∀ w ∈ ws, 1 ≤ w := fun x hx => hw x (by simp [hx])
    have h1 := hw w (by simp)
    obtain ⟨r, r0, r1, r2⟩ := Wt_at (es := es) (ws := ws) (s := s) (by simpa using hs) (by simpa using hl) hws u
    refine ⟨(if e ≤ u then w else 0) + r, by split <;> omega, ?_, ?_⟩
    · simp only [List.sum_cons, List.getElem_cons_succ]
      split <;> omega
    · simp only [List.zip_cons_cons, Wt, List.getElem_cons_succ, r2]
      omega
theorem Wt_set : ∀ {es ws : List Int} {s : Nat} (hs : s < es.length) (hl : es.length = ws.length) (e' u : Int),
    Wt ((es.set s e').zip ws) u + (if es[s] ≤ u then ws[s]'(by omega) else 0) = Wt (es.zip ws) u + (if e' ≤ u then ws[s]'(by omega) else 0)
  | e :: es, w :: ws, 0, hs, hl, e', u => by
    simp only [List.set_cons_zero, List.zip_cons_cons, Wt, List.getElem_cons_zero]
    omega
  | e :: es, w :: ws, s + 1, hs, hl, e', u => by
    have := Wt_set (es := es) (ws := ws) (s := s) (by simpa using hs) (by simpa using hl) e' u
    simp only [List.set_cons_succ, List.zip_cons_cons, Wt, List.getElem_cons_succ]
    omega
section
variable {ws es : List Int} {q : Int} (hl : es.length = ws.length) (hw : ∀ w ∈ ws, 1 ≤ w) (h0 : 0 < q) (h1 : q ≤ ws.sum)
include hl hw h0 h1
/-- an entry rises -/
theorem pick_raise {s : Nat} (hs : s < es.length) {e' : Int} (he : es[s] ≤ e') : pick ws q es ≤ pick ws q (es.set s e') ∧ (pick ws q es < pick ws q (es.set s e') → es[s] ≤ pick ws q (es.set s e') ∧ pick ws q (es.set s e') ≤ e') := by
  have hl' : (es.set s e').length = ws.length := by rw [List.length_set, hl]
  have hw0 : 1 ≤ ws[s]'(by omega) := hw _ (List.getElem_mem _)
  have a := pick_spec hl hw h0 h1
  have b := pick_spec hl' hw h0 h1
  have c := fun u => Wt_set hs hl e' u
  have le : pick ws q es ≤ pick ws q (es.set s e') := by
    apply pick_le hl hw h0 h1
    have c' := c (pick ws q (es.set s e'))
    have b1 := b.1
    by_cases x : e' ≤ pick ws q (es.set s e')
    · rw [if_pos (show es[s] ≤ _ by omega), if_pos x] at c'
      omega
    · rw [if_neg x] at c'
      by_cases y : es[s] ≤ pick ws q (es.set s e')
      · rw [if_pos y] at c'
        omega
      · rw [if_neg y] at c'
        omega
  refine ⟨le, fun lt => ?_⟩
  constructor
  · apply Int.not_lt.mp
    intro hx
    have c' := c (pick ws q es)
    rw [if_neg (by omega), if_neg (by omega)] at c'
    have := pick_le hl' hw h0 h1 (u := pick ws q es) (by have := a.1; omega)
    omega
  · apply Int.not_lt.mp
    intro hx
    have c' := c (pick ws q (es.set s e') - 1)
    rw [if_pos (by omega), if_pos (by omega)] at c'
    have := pick_le hl' hw h0 h1 (u := pick ws q (es.set s e') - 1) (by
      have := a.1
      have := Wt_mono (zip_nonneg (es := es) hw) (show pick ws q es ≤ pick ws q (es.set s e') - 1 by omega)
      omega)
    omega
/-- the quota rises -/
theorem pick_quota {q' : Int} (hq : q ≤ q') (h1' : q' ≤ ws.sum) : pick ws q es ≤ pick ws q' es := by
  apply pick_le hl hw h0 h1
  have := (pick_spec hl hw (show 0 < q' by omega) h1').1
  omega
/-- one that decides alone -/
theorem pick_alone {s : Nat} (hs : s < es.length) (ha : q ≤ ws[s]'(by omega)) (hb : ws.sum - q < ws[s]'(by omega)) : pick ws q es = es[s] := by
  apply Int.le_antisymm
  · apply pick_le hl hw h0 h1
    obtain ⟨r, r0, r1, r2⟩ := Wt_at hs hl hw es[s]
    rw [r2, if_pos (Int.le_refl _)]
    omega
  · apply Int.not_lt.mp
    intro hx
    have := (pick_spec hl hw h0 h1).1
    obtain ⟨r, r0, r1, r2⟩ := Wt_at hs hl hw (pick ws q es)
    rw [r2, if_neg (by omega)] at this
    omega
end
theorem pick_min {ws es : List Int} (hl : es.length = ws.length) (hw : ∀ w ∈ ws, 1 ≤ w) (hn : 1 ≤ ws.length) : pick ws 1 es = lstMin es := by
  have hs := sum_ge hw
  obtain ⟨m1, m2⟩ := lstMin_spec (xs := es) (by intro e; rw [e] at hl; simp at hl; omega)
  obtain ⟨s, hs', e⟩ := List.getElem_of_mem m1
  apply Int.le_antisymm
  · apply pick_le hl hw (by omega) (by omega)
    obtain ⟨r, r0, r1, r2⟩ := Wt_at hs' hl hw (lstMin es)
    rw [r2, e, if_pos (Int.le_refl _)]
    have : 1 ≤ ws[s]'(by omega) := hw _ (List.getElem_mem _)
    omega
  · apply Int.not_lt.mp
    intro hx
    have := (pick_spec hl hw (show (0 : Int) < 1 by omega) (by omega)).1
    rw [Wt_none] at this
    · omega
    · intro p hp
      have := m2 p.1 (List.of_mem_zip (a := p.1) (b := p.2) hp).1
      omega
theorem pick_max {ws es : List Int} (hl : es.length = ws.length) (hw : ∀ w ∈ ws, 1 ≤ w) (hn : 1 ≤ ws.length) : pick ws ws.sum es = lstMax es := by
  have hs := sum_ge hw
  obtain ⟨m1, m2⟩ := lstMax_spec (xs := es) (by intro e; rw [e] at hl; simp at hl; omega)
  obtain ⟨s, hs', e⟩ := List.getElem_of_mem m1
  apply Int.le_antisymm
  · apply pick_le hl hw (by omega) (by omega)
    have key : ∀ ps : List (Int × Int), (∀ p ∈ ps, p.1 ≤ lstMax es) → Wt ps (lstMax es) = sumP ps := by
      intro ps
      induction ps with
      | nil => intro _; rfl
      | cons p ps ih =>
        intro h
        simp only [Wt, sumP]
        rw [if_pos (h p (by simp)), ih fun x hx => h x (by simp [hx])]
    rw [key _ fun p hp => m2 p.1 (List.of_mem_zip (a := p.1) (b := p.2) hp).1, sumP_zip hl]
    exact Int.le_refl _
  · apply Int.not_lt.mp
    intro hx
    have := (pick_spec hl hw (show (0 : Int) < ws.sum by omega) (Int.le_refl _)).1
    obtain ⟨r, r0, r1, r2⟩ := Wt_at hs' hl hw (pick ws ws.sum es)
    rw [r2, e, if_neg (by omega)] at this
    have : 1 ≤ ws[s]'(by omega) := hw _ (List.getElem_mem _)
    omega
end PD
set_option Elab.async false
set_option linter.all false
set_option autoImplicit false
set_option maxRecDepth 100000
set_option maxHeartbeats 4000000
/-! The plain law of packing seats into rooms. -/
namespace PD
/-! ### loads fit tops: by counting -/
def Fit (L T : List Int) : Prop := ∀ c : Int, L.countP (fun x => decide (c < x)) ≤ T.countP (fun x => decide (c < x))
/-- the seats rem can be put to the loads L, or to new ones, so that the end fits -/
def Can (T : List Int) : List Int → List Int → Prop
  | [], L => Fit L T
  | w :: rem, L => Can T rem (w :: L) ∨ ∃ x R, L.Perm (x :: R) ∧ Can T rem ((x + w) :: R)
theorem fit_perm {L L' T : List Int} (h : L.Perm L') (f : Fit L T) : Fit L' T := fun c => by rw [← h.countP_eq]; exact f c
theorem can_perm {T : List Int} : ∀ {rem L L' : List Int}, L.Perm L' → Can T rem L → Can T rem L'
  | [], _, _, h, f => fit_perm h f
  | w :: rem, L, L', h, f => by
    rcases f with f | ⟨x, R, p, f⟩
    · exact .inl (can_perm (h.cons w) f)
    · exact .inr ⟨x, R, h.symm.trans p, f⟩
theorem fit_tail {w : Int} {L T : List Int} (f : Fit (w :: L) T) : Fit L T := fun c => by
  have := f c
  rw [List.countP_cons] at this
  omega
theorem fit_less {x y : Int} {L T : List Int} (h : x ≤ y) (f : Fit (y :: L) T) : Fit (x :: L) T := fun c => by
  have := f c
  rw [List.countP_cons] at this ⊢
  by_cases h1 : c < x
  · have h2 : c < y := by omega
    simp only [h1, h2, decide_true, if_true] at this ⊢
    exact this
  · simp only [h1, decide_false] at this ⊢
    have e : (if false = true then 1 else 0) = 0 := rfl
    omega
theorem fit_of_can {T : List Int} : ∀ {rem L : List Int}, (∀ w ∈ rem, 0 ≤ w) → Can T rem L → Fit L T
  | [], _, _, f => f
  | w :: rem, L, h, f => by
    have h0 := h w (by simp)
    rcases f with f | ⟨x, R, p, f⟩
    · exact fit_tail (fit_of_can (fun v hv => h v (by simp [hv])) f)
    · exact fit_perm p.symm (fit_less (by omega) (fit_of_can (fun v hv => h v (by simp [hv])) f))
theorem below_all : ∀ L : List Int, ∃ c : Int, ∀ x ∈ L, c < x
  | [] => ⟨0, fun _ h => nomatch h⟩
  | y :: L => by
    obtain ⟨c, h⟩ := below_all L
    refine ⟨min c (y - 1), fun x hx => ?_⟩
    rcases List.mem_cons.mp hx with rfl | hx
    · omega
    · have := h x hx; omega
def fitsB (L T : List Int) : Bool := decide (L.length ≤ T.length) && ((L.zip T).map fun p => decide (p.1 ≤ p.2)).all id
theorem fits_of_fit {L T : List Int} (hL : L.Pairwise (· ≥ ·)) (hT : T.Pairwise (· ≥ ·)) (f : Fit L T) : fitsB L T = true := by
  unfold fitsB
  rw [Bool.and_eq_true, decide_eq_true_eq]
  refine ⟨?_, ?_⟩
  · obtain ⟨c, h⟩ := below_all L
    have e : L.countP (fun x => decide (c < x)) = L.length := List.countP_eq_length.mpr fun x hx => by simpa using h x hx
    have := f c
    have := List.countP_le_length (p := fun x => decide (c < x)) (l := T)
    omega
  · rw [List.all_map, List.all_eq_true]
    intro p hp
    obtain ⟨i, hi, e⟩ := List.mem_iff_getElem.mp hp
    rw [List.length_zip] at hi
    have h1 : i < L.length := by omega
    have h2 : i < T.length := by omega
    rw [List.getElem_zip] at e
    subst e
    show decide (L[i] ≤ T[i]) = true
    rw [decide_eq_true_eq]
    refine Classical.byContradiction fun hn => ?_
    have hc := f (T[i])
    have a1 : i + 1 ≤ L.countP fun x => decide (T[i] < x) := by
      have e : L.countP (fun x => decide (T[i] < x)) = (L.take (i + 1)).countP (fun x => decide (T[i] < x)) + (L.drop (i + 1)).countP (fun x => decide (T[i] < x)) := by
        rw [← List.countP_append, List.take_append_drop]
      have e2 : (L.take (i + 1)).countP (fun x => decide (T[i] < x)) = (L.take (i + 1)).length := List.countP_eq_length.mpr fun x hx => by
        obtain ⟨j, hj, ej⟩ := List.mem_iff_getElem.mp hx
        rw [List.length_take] at hj
        rw [List.getElem_take] at ej
        subst ej
        have : L[j] ≥ L[i] := by
          rcases Nat.lt_or_ge j i with q | q
          · exact List.pairwise_iff_getElem.mp hL j i (by omega) h1 q
          · have : j = i := by omega
            subst this
            exact Int.le_refl _
        simp only [decide_eq_true_eq]
        omega
      rw [List.length_take] at e2
      omega
    have a2 : T.countP (fun x => decide (T[i] < x)) ≤ i := by
      have e : T.countP (fun x => decide (T[i] < x)) = (T.take i).countP (fun x => decide (T[i] < x)) + (T.drop i).countP (fun x => decide (T[i] < x)) := by
        rw [← List.countP_append, List.take_append_drop]
      have e2 : (T.drop i).countP (fun x => decide (T[i] < x)) = 0 := List.countP_eq_zero.mpr fun x hx => by
        obtain ⟨j, hj, ej⟩ := List.mem_iff_getElem.mp hx
        rw [List.length_drop] at hj
        rw [List.getElem_drop] at ej
        subst ej
        have : T[i] ≥ T[i + j] := by
          rcases Nat.lt_or_ge i (i + j) with q | q
          · exact List.pairwise_iff_getElem.mp hT i (i + j) h2 (by omega) q
          · have : j = 0 := by omega
            subst this
            exact Int.le_refl _
        simp only [decide_eq_true_eq]
        omega
      have e3 := List.countP_le_length (p := fun x => decide (T[i] < x)) (l := T.take i)
      rw [List.length_take] at e3
      omega
    omega
/-! ### an assignment gives a completion -/
theorem fit_opts : ∀ {os : List (Option Int)} {rooms : List Int}, os.length = rooms.length → (∀ (j : Nat) (x : Int), os[j]? = some (some x) → x ≤ rooms.getD j 0) → Fit (os.filterMap id) rooms
  | [], [], _, _, c => Nat.le_refl _
  | o :: os, r :: rooms, hl, h, c => by
    have ih := fit_opts (os := os) (rooms := rooms) (by simpa using hl) (fun j x e => by simpa using h (j + 1) x (by simpa using e)) c
    rw [List.countP_cons]
    cases o with
    | none =>
      simp only [List.filterMap_cons, id]
      exact Nat.le_add_right_of_le ih
    | some x =>
      have hx : x ≤ r := by simpa using h 0 x rfl
      simp only [List.filterMap_cons, id, List.countP_cons]
      by_cases h1 : c < x
      · have h2 : c < r := by omega
        simp only [h1, h2, decide_true, if_true]
        omega
      · simp only [h1, decide_false]
        have e : (if false = true then 1 else 0) = 0 := rfl
        omega
theorem fm_some (x : Int) (l : List (Option Int)) : (some x :: l).filterMap id = x :: l.filterMap id := rfl
theorem fm_none (l : List (Option Int)) : (none :: l).filterMap id = l.filterMap id := rfl
def wAt (ws : List Int) (s : Nat) : Int := ws.getD s 0
def sumAt (ws : List Int) (f : Nat → Nat) (ord : List Nat) (j : Nat) : Int := ((ord.filter fun s => decide (f s = j)).map (wAt ws)).sum
theorem can_opts {ws rooms T : List Int} {f : Nat → Nat} (hT : rooms.Perm T) : ∀ {ord : List Nat} {os : List (Option Int)}, os.length = rooms.length → (∀ s ∈ ord, f s < rooms.length) → (∀ j, j < rooms.length → (os.getD j none).getD 0 + sumAt ws f ord j ≤ rooms.getD j 0) → Can T (ord.map (wAt ws)) (os.filterMap id)
  | [], os, hl, _, h => by
    refine fun c => ?_
    rw [← hT.countP_eq]
    refine fit_opts hl (fun j x e => ?_) c
    have hj : j < os.length := (List.getElem?_eq_some_iff.mp e).1
    have := h j (by omega)
    rw [List.getD_eq_getElem?_getD, e] at this
    simp only [sumAt, List.filter_nil, List.map_nil, List.sum_nil, Option.getD_some] at this
    omega
  | s :: ord, os, hl, hf, h => by
    have hj := hf s (by simp)
    have hj' : f s < os.length := by omega
    have split : os = os.take (f s) ++ os[f s] :: os.drop (f s + 1) := by rw [List.getElem_cons_drop, List.take_append_drop]
    have ih := fun (y : Int) (hy : y = (os[f s]).getD 0 + wAt ws s) => can_opts (ws := ws) (rooms := rooms) (T := T) (f := f) hT (ord := ord) (os := os.set (f s) (some y)) (by rw [List.length_set]; exact hl) (fun t ht => hf t (by simp [ht])) (fun j hjr => by
      have hh := h j hjr
      unfold sumAt at hh ⊢
      rw [List.filter_cons] at hh
      by_cases q : f s = j
      · subst q
        simp only [decide_true, if_true, List.map_cons, List.sum_cons] at hh
        rw [List.getD_eq_getElem?_getD, List.getElem?_set_self hj', Option.getD_some, Option.getD_some]
        rw [List.getD_eq_getElem?_getD, List.getElem?_eq_getElem hj', Option.getD_some] at hh
        omega
      · rw [if_neg (by simpa using q)] at hh
        rw [List.getD_eq_getElem?_getD, List.getElem?_set_ne q, ← List.getD_eq_getElem?_getD]
        exact hh)
    have eset : ∀ y : Option Int, os.set (f s) y = os.take (f s) ++ y :: os.drop (f s + 1) := fun y => List.set_eq_take_append_cons_drop .. |>.trans (if_pos hj')
    rw [List.map_cons]
    cases ho : os[f s] with
    | none =>
      have i2 := ih (wAt ws s) (by rw [ho]; simp)
      refine .inl (can_perm ?_ i2)
      rw [eset]
      conv => rhs; rw [split, ho]
      rw [List.filterMap_append, List.filterMap_append, fm_some, fm_none]
      exact List.perm_middle
    | some x =>
      have i2 := ih (x + wAt ws s) (by rw [ho]; simp)
      refine .inr ⟨x, (os.take (f s)).filterMap id ++ (os.drop (f s + 1)).filterMap id, ?_, can_perm ?_ i2⟩
      · conv => lhs; rw [split, ho]
        rw [List.filterMap_append, fm_some]
        exact List.perm_middle
      · rw [eset, List.filterMap_append, fm_some]
        exact List.perm_middle
theorem can_of_assign {ws rooms T : List Int} {f : Nat → Nat} {ord : List Nat} (hT : rooms.Perm T) (hf : ∀ s ∈ ord, f s < rooms.length) (h : ∀ j, j < rooms.length → sumAt ws f ord j ≤ rooms.getD j 0) : Can T (ord.map (wAt ws)) [] := by
  have := can_opts (ws := ws) (rooms := rooms) (T := T) (f := f) hT (ord := ord) (os := List.replicate rooms.length none) (by simp) hf (fun j hj => by
    have e : (List.replicate rooms.length (none : Option Int)).getD j none = none := by
      rw [List.getD_eq_getElem?_getD, List.getElem?_replicate]
      split <;> rfl
    rw [e]
    have := h j hj
    simp only [Option.getD_none]
    omega)
  rw [show (List.replicate rooms.length (none : Option Int)).filterMap id = [] by
    generalize rooms.length = n
    induction n with
    | zero => rfl
    | succ n ih => rw [List.replicate_succ, fm_none, ih]] at this
  exact this
/-! ### blocks of seats -/
def sumW (ws : List Int) (b : List Nat) : Int := (b.map (wAt ws)).sum
def loads (ws : List Int) (bs : List (List Nat)) : List Int := bs.map (sumW ws)
def enl (bs : List (List Nat)) (a s : Nat) : List (List Nat) := if a < bs.length then bs.set a (bs.getD a [] ++ [s]) else bs ++ [[s]]
theorem sumW_app (ws : List Int) (b : List Nat) (s : Nat) : sumW ws (b ++ [s]) = sumW ws b + wAt ws s := by
  rw [sumW, List.map_append, List.sum_append]
  simp [sumW]
theorem can_enl {ws T rem : List Int} {bs : List (List Nat)} {s : Nat} (h : Can T (wAt ws s :: rem) (loads ws bs)) : ∃ a, a ≤ bs.length ∧ Can T rem (loads ws (enl bs a s)) := by
  rcases h with h | ⟨x, R, p, h⟩
  · refine ⟨bs.length, Nat.le_refl _, can_perm ?_ h⟩
    rw [enl, if_neg (Nat.lt_irrefl _), loads, loads, List.map_append]
    have e : ([[s]] : List (List Nat)).map (sumW ws) = [wAt ws s] := by simp [sumW]
    rw [e]
    exact (List.perm_append_comm (l₁ := [wAt ws s])).symm.symm
  · have hx : x ∈ loads ws bs := p.mem_iff.mpr (by simp)
    obtain ⟨i, hi, ei⟩ := List.mem_iff_getElem.mp hx
    have hi' : i < bs.length := by simpa [loads] using hi
    refine ⟨i, by omega, can_perm ?_ h⟩
    have split : bs = bs.take i ++ bs[i] :: bs.drop (i + 1) := by rw [List.getElem_cons_drop, List.take_append_drop]
    have e1 : loads ws bs = loads ws (bs.take i) ++ x :: loads ws (bs.drop (i + 1)) := by
      conv => lhs; rw [split]
      rw [loads, List.map_append, List.map_cons]
      rw [show sumW ws bs[i] = x by rw [← ei]; simp [loads]]
      rfl
    have pR : R.Perm (loads ws (bs.take i) ++ loads ws (bs.drop (i + 1))) := by
      rw [e1] at p
      exact (p.symm.trans List.perm_middle).cons_inv
    rw [enl, if_pos hi', List.set_eq_take_append_cons_drop, if_pos hi', loads, List.map_append, List.map_cons, List.getD_eq_getElem?_getD, List.getElem?_eq_getElem hi', Option.getD_some, sumW_app]
    rw [show sumW ws bs[i] = x by rw [← ei]; simp [loads]]
    exact (pR.cons _).trans List.perm_middle.symm
end PD
set_option Elab.async false
set_option linter.all false
set_option maxRecDepth 100000
set_option maxHeartbeats 4000000
/-! Allowances and packings. -/
namespace PD
open PySem PySem.Spec PyProof.Rows L2
/-! ### sides -/
abbrev Sd := Nat × Bool
def wayS (b : Bool) : Str := if b = true then Str.ofString "least" else Str.ofString "most"
def sideD (s : Sd) : D := .tup [.int (s.1 : Nat), .str (wayS s.2)]
def room (ws qs : List Int) (s : Sd) : Int := if s.2 = true then qs.getD s.1 0 - 1 else ws.sum - qs.getD s.1 0
theorem way_least (b : Bool) : decide (wayS b = Str.ofString "least") = b := by cases b <;> decide +kernel
theorem lk5 {a b : D} : List.lookup ("total" : Str) [(("seat_weights" : Str), a), (("column_quotas" : Str), b)] = none := rfl
theorem lk6 {a b : D} : List.lookup ("allowance" : Str) [(("seat_weights" : Str), a), (("column_quotas" : Str), b)] = none := rfl
/-! ### promises -/
def c_Council_total : Con := fun ds κ R => ∃ ws qs : List Int, ds = [cO ws qs] ∧ R (.int ws.sum) κ
def c_Council_allowance : Con := fun ds κ R => ∃ (ws qs : List Int) (s : Sd), ds = [cO ws qs, sideD s] ∧ s.1 < qs.length ∧ R (.int (room ws qs s)) κ
def c_rooms_of : Con := fun ds κ R => ∃ (ws qs : List Int) (ss : List Sd), ds = [cO ws qs, .lst (ss.map sideD)] ∧ (∀ s ∈ ss, s.1 < qs.length) ∧ ss.length ≤ 1000 ∧ R (lN (ss.map (room ws qs))) κ
def c_fits : Con := fun ds κ R => ∃ L T : List Int, ds = [tI L, lN T] ∧ L.length ≤ 1000 ∧ R (.bl (fitsB L T)) κ
def lB (bs : List (List Nat)) : D := .lst (bs.map lX)
def c_enlarged : Con := fun ds κ R => ∃ (bs : List (List Nat)) (a s : Nat) (ws : List Int), ds = [lB bs, .int (a : Nat), .int (s : Nat), lN ws] ∧ a ≤ bs.length ∧ bs.length ≤ 100 ∧ (∀ b ∈ bs, b ≠ [] ∧ b.length ≤ 100 ∧ ∀ t ∈ b, t < ws.length) ∧ s < ws.length ∧
  ∀ bs' : List (List Nat), bs'.Perm (enl bs a s) → (loads ws bs').Pairwise (· ≥ ·) → R (.tup [tI (loads ws bs'), lB bs']) κ
abbrev N_Council_total : List Str := ["self"]
abbrev P_Council_total : List Str := ["self"]
@[reducible] def t_Council_total : AS :=
  (aRet (aCB dSum (aCons (aFld "Council" "seat_weights" (aVar 0)) aNil)))
abbrev N_Council_allowance : List Str := ["self", "side", "column", "way"]
abbrev P_Council_allowance : List Str := ["self", "side"]
@[reducible] def t_Council_allowance : AS :=
  (aSeq (aAsg (aVar 1) (aGTup 2 (aGCons (aName 2) (aGCons (aName 3) aGNil))))
  (aSeq (aIfS (aTest (aOp dEq (aVar 3) (aC (.str (Str.ofString "least"))))) (aRet (aOp dSub (aOp dIx (aFld "Council" "column_quotas" (aVar 0)) (aVar 2)) (aC (.int 1)))) aNext)
  (aRet (aOp dSub (aMeth "Council" "total" c_Council_total (aVar 0) aNil) (aOp dIx (aFld "Council" "column_quotas" (aVar 0)) (aVar 2))))))
abbrev N_rooms_of : List Str := ["council", "sides", "side"]
abbrev P_rooms_of : List Str := ["council", "sides"]
@[reducible] def t_rooms_of : AS :=
  (aRet (aData (aComp (aIt (aVar 1)) (aName 2) aYes (aMeth "Council" "allowance" c_Council_allowance (aVar 0) (aCons (aVar 2) aNil)) [2])))
abbrev N_fits : List Str := ["load", "tops", "one", "top"]
abbrev P_fits : List Str := ["load", "tops"]
@[reducible] def t_fits : AS :=
  (aRet (aAndV (aOp dLe (aCB dLen (aCons (aVar 0) aNil)) (aCB dLen (aCons (aVar 1) aNil))) (aCB dAll (aCons (aData (aComp (aZipM (aCons (aVar 0) (aCons (aVar 1) aNil))) (aGTup 2 (aGCons (aName 2) (aGCons (aName 3) aGNil))) aYes (aOp dLe (aVar 2) (aVar 3)) [2, 3])) aNil))))
abbrev N_enlarged : List Str := ["blocks", "at", "seat", "weights", "some", "block", "pairs", "one", "pair"]
abbrev P_enlarged : List Str := ["blocks", "at", "seat", "weights"]
@[reducible] def t_enlarged : AS :=
  (aSeq (aAsg (aCell (aAddL (aData (aComp (aIt (aVar 0)) (aName 5) aYes (aData (aList (aVar 5))) [5])) (aData (aLst (aCons (aData (aLst aNil)) aNil))))) (aName 4))
  (aSeq (aAsg (aOp dAdd (aOp dIx (aVar 4) (aVar 1)) (aData (aLst (aCons (aVar 2) aNil)))) (aSub (aVar 4) (aVar 1)))
  (aFrzV 4 (aSeq (aAsg (aData (aComp (aIt (aVar 4)) (aName 5) (aTest (aOp dNe (aVar 5) (aData (aLst aNil)))) (aTup (aCons (aCB dSum (aCons (aData (aComp (aIt (aVar 5)) (aName 7) aYes (aOp dIx (aVar 3) (aVar 7)) [7])) aNil)) (aCons (aVar 5) aNil))) [5])) (aName 6))
  (aSeq (aAsg (aSortK 8 (fun ρ => (((kNeg (((ρ[8]?).join).bind fun d => ((some (.int 0))).bind fun i => kIx d i))).bind fun d => ((((ρ[8]?).join).bind fun d => ((some (.int 1))).bind fun i => kIx d i)).bind fun i => some (.tuple [d, i]))) (aVar 6)) (aName 6))
  (aRet (aTup (aCons (aCB dTuple (aCons (aData (aComp (aIt (aVar 6)) (aName 8) aYes (aOp dIx (aVar 8) (aC (.int 0))) [8])) aNil)) (aCons (aData (aComp (aIt (aVar 6)) (aName 8) aYes (aOp dIx (aVar 8) (aC (.int 1))) [8])) aNil)))))))))
theorem l_Council_total : ∀ ds κ R, c_Council_total ds κ R → ds.length = P_Council_total.length := by
  rintro ds κ R ⟨_, _, rfl, _⟩
  rfl
theorem l_Council_allowance : ∀ ds κ R, c_Council_allowance ds κ R → ds.length = P_Council_allowance.length := by
  rintro ds κ R ⟨_, _, _, rfl, _⟩
  rfl
theorem l_rooms_of : ∀ ds κ R, c_rooms_of ds κ R → ds.length = P_rooms_of.length := by
  rintro ds κ R ⟨_, _, _, rfl, _⟩
  rfl
theorem l_fits : ∀ ds κ R, c_fits ds κ R → ds.length = P_fits.length := by
  rintro ds κ R ⟨_, _, rfl, _⟩
  rfl
theorem l_enlarged : ∀ ds κ R, c_enlarged ds κ R → ds.length = P_enlarged.length := by
  rintro ds κ R ⟨_, _, _, _, rfl, _⟩
  rfl
theorem b_Council_total : Body N_Council_total t_Council_total c_Council_total := by
  rintro ds κ R co ⟨ws, qs, rfl, h⟩
  simp [-Bool.exists_bool, start, cO, lk1, -List.lookup_eq_none_iff]
  exact .inl h
theorem b_Council_allowance : Body N_Council_allowance t_Council_allowance c_Council_allowance := by
  rintro ds κ R co ⟨ws, qs, s, rfl, hs, h⟩
  simp [-Bool.exists_bool, start, cO, sideD, way_least, lk2, lk5, -List.lookup_eq_none_iff, List.replicate]
  have e := atI_map (f := D.int) (xs := qs) hs
  cases hb : s.2 with
  | true =>
    rw [room, hb, if_pos rfl, getD_lt hs] at h
    simp [-Bool.exists_bool, e, lN]
    exact .inl h
  | false =>
    rw [room, hb, if_neg (by decide), getD_lt hs] at h
    simp [-Bool.exists_bool, e, lN]
    refine ⟨ws, qs, rfl, ?_⟩
    simp [-Bool.exists_bool, e, lN]
    exact .inl h
theorem b_rooms_of : Body N_rooms_of t_rooms_of c_rooms_of := by
  rintro ds κ R co ⟨ws, qs, ss, rfl, hs, hn, h⟩
  simp [-Bool.exists_bool, start, List.replicate]
  refine comp_pure (b := fun s => D.int (room ws qs s)) (by omega) (fun s hm Z hz => ?_) ?_
  · simp [-Bool.exists_bool, cO, lk6, -List.lookup_eq_none_iff]
    exact ⟨ws, qs, s, rfl, hs s hm, hz⟩
  · rw [lN, List.map_map] at h
    exact .inl h
theorem b_fits : Body N_fits t_fits c_fits := by
  rintro ds κ R co ⟨L, T, rfl, hn, h⟩
  unfold fitsB at h
  simp [-Bool.exists_bool, start, List.replicate, -List.all_map]
  by_cases q : L.length ≤ T.length
  · rw [if_pos q]
    rw [decide_eq_true q, Bool.true_and] at h
    rw [tI, lN, zipMK_tl, zipD_map]
    refine comp_pure (b := fun p : Int × Int => D.bl (decide (p.1 ≤ p.2))) (by rw [List.length_zip]; omega) (fun p hp Z hz => ?_) ?_
    · simp [-Bool.exists_bool]
      exact hz
    · have := e_all (bs := (L.zip T).map fun p => decide (p.1 ≤ p.2)) (κ := κ) (R := Fin κ R) (.inl h)
      rw [List.map_map] at this
      exact this
  · rw [if_neg q]
    rw [decide_eq_false q, Bool.false_and] at h
    exact .inl h
end PD
set_option Elab.async false
set_option linter.all false
set_option maxRecDepth 100000
set_option maxHeartbeats 4000000
/-! Packings: a load with one seat more. -/
namespace PD
open PySem PySem.Spec PyProof.Rows L2
theorem enl_eq {bs : List (List Nat)} {a s : Nat} (ha : a ≤ bs.length) (hb : ∀ b ∈ bs, b ≠ []) (hl : a < (bs ++ [[]]).length) : (((bs ++ [[]]).set a ((bs ++ [[]])[a] ++ [s])).filter fun b => !decide (b = [])) = enl bs a s := by
  have hf : ∀ xs : List (List Nat), (∀ b ∈ xs, b ≠ []) → (xs.filter fun b => !decide (b = [])) = xs := fun xs h => List.filter_eq_self.mpr fun b hm => by simpa using h b hm
  by_cases q : a < bs.length
  · rw [enl, if_pos q, List.set_append_left _ _ q, List.filter_append, List.getElem_append_left q, getD_lt q, hf]
    · simp
    · intro b hm
      rcases List.mem_or_eq_of_mem_set hm with hm | rfl
      · exact hb b hm
      · simp
  · have : a = bs.length := by omega
    subst this
    rw [enl, if_neg q, List.getElem_append_right (Nat.le_refl _), List.set_append_right _ _ (Nat.le_refl _), List.filter_append, hf _ hb]
    simp
section
variable {κ : Cs} {R : D → Cs → Prop} {RA : List D → Cs → Prop}
@[simp] theorem itK_lX {b : List Nat} : itK (lX b) κ RA ↔ RA (b.map fun n => .int (n : Nat)) κ := .rfl
@[simp] theorem e_neX {b : List Nat} : dNe (lX b) (.lst []) κ R ↔ R (.bl (!decide (b = []))) κ := by
  rw [lX_lN, show (D.lst []) = lN [] from rfl, e_neL]
  simp
@[simp] theorem e_eqX {b : List Nat} : dEq (lX b) (.lst []) κ R ↔ R (.bl (decide (b = []))) κ := by
  rw [lX_lN, show (D.lst []) = lN [] from rfl, e_eqL]
  simp
end
theorem alike_nats (b c : List Nat) : PySem.W.alikeAll (b.map fun n => PyData.int (n : Nat)) (c.map fun n => PyData.int (n : Nat)) = true := by
  have := PySem.W.alike_ints (b.map fun n : Nat => (n : Int)) (c.map fun n : Nat => (n : Int))
  rw [List.map_map, List.map_map] at this
  exact this
theorem depth_nats : ∀ b : List Nat, PyData.depthAll (b.map fun n => PyData.int (n : Nat)) = 0
  | [] => by simp [PyData.depthAll]
  | n :: b => by rw [List.map_cons, PyData.depthAll, depth_nats b]; simp [PyData.depth]
theorem plains_nats : ∀ b : List Nat, plains (b.map fun n => D.int (n : Nat)) = true
  | [] => rfl
  | n :: b => by rw [List.map_cons, plains, plains_nats b]; rfl
theorem wAt_lt {ws : List Int} {t : Nat} (h : t < ws.length) : wAt ws t = ws[t] := getD_lt h 0
theorem b_enlarged : Body N_enlarged t_enlarged c_enlarged := by
  rintro ds κ R co ⟨bs, a, s, ws, rfl, ha, hn, hb, hs, h⟩
  simp [-Bool.exists_bool, start, lB, List.replicate]
  refine comp_pure (b := lX) (by omega) (fun b hm Z hz => ?_) ?_
  · simp [-Bool.exists_bool, lX]
    exact hz
  have e0 : bs.map lX ++ [D.lst []] = (bs ++ [[]]).map lX := by simp [lX]
  simp only [addLK_ll, List.length_map, e0]
  refine ⟨by omega, ?_⟩
  have hl : a < (bs ++ [[]]).length := by rw [List.length_append]; simp; omega
  have hes := enl_eq (s := s) ha (fun b hm => (hb b hm).1) hl
  have hx : ((bs ++ [[]])[a]).length ≤ 100 ∧ ∀ t ∈ (bs ++ [[]])[a], t < ws.length := by
    have hm : (bs ++ [[]])[a] ∈ bs ++ [[]] := List.getElem_mem hl
    rcases List.mem_append.mp hm with hm | hm
    · exact (hb _ hm).2
    · rw [List.mem_singleton.mp hm]
      exact ⟨by simp, fun _ h => nomatch h⟩
  simp [-Bool.exists_bool, -List.map_append, itAt_cell (own_get rfl), atI_map hl, own_get rfl, own_set rfl]
  have e1 : dAdd (lX (bs ++ [[]])[a]) (D.lst [D.int (s : Nat)]) = fun κ R => ((bs ++ [[]])[a]).length + 1 ≤ 16777216 ∧ R (lX ((bs ++ [[]])[a] ++ [s])) κ := by
    funext κ R
    rw [lX, eq_iff_iff, e_addL]
    simp [lX]
  rw [e1]
  refine ⟨by omega, ?_⟩
  have hin : ∀ b ∈ (bs ++ [[]]).set a ((bs ++ [[]])[a] ++ [s]), b.length ≤ 101 ∧ ∀ t ∈ b, t < ws.length := by
    intro b hm
    rcases List.mem_or_eq_of_mem_set hm with hm | rfl
    · rcases List.mem_append.mp hm with hm | hm
      · have := hb b hm
        exact ⟨by omega, this.2.2⟩
      · rw [List.mem_singleton.mp hm]
        exact ⟨by simp, fun _ h => nomatch h⟩
    · refine ⟨by rw [List.length_append]; simp; omega, fun t ht => ?_⟩
      rcases List.mem_append.mp ht with ht | ht
      · exact hx.2 t ht
      · rw [List.mem_singleton.mp ht]
        exact hs
  have hlen : ((bs ++ [[]]).set a ((bs ++ [[]])[a] ++ [s])).length = bs.length + 1 := by rw [List.length_set, List.length_append]; rfl
  generalize hE : (bs ++ [[]]).set a ((bs ++ [[]])[a] ++ [s]) = es at *
  have e2 : ((bs ++ [[]]).map lX).set a (lX ((bs ++ [[]])[a] ++ [s])) = es.map lX := by rw [← hE, List.map_set]
  refine ⟨(bs ++ [[]]).map lX, own_get rfl, a, ixN_lt (by rw [List.length_map]; exact hl), ?_⟩
  simp [-Bool.exists_bool, -List.map_append, own_get rfl, own_set rfl, e2]
  refine comp_filt (p := fun b => !decide (b = [])) (b := fun b => .tup [.int (sumW ws b), lX b]) (by omega) (fun b hm Z Y h1 h2 => ?_) ?_
  · simp [-Bool.exists_bool]
    by_cases q : b = []
    · rw [if_pos q]
      exact h2 (by simpa using q)
    · rw [if_neg q]
      refine comp_pure (b := fun t => .int (wAt ws t)) (by have := (hin b hm).1; omega) (fun t ht Z hz => ?_) ?_
      · have ht' := (hin b hm).2 t ht
        simp [-Bool.exists_bool]
        refine ⟨_, atI_map ht', ?_⟩
        rw [wAt_lt ht'] at hz
        exact hz
      · have := e_sum (ns := b.map (wAt ws)) (κ := κ ++ [none]) (R := fun d κ1 => Z (.tup [d, lX b]) κ1) (h1 (by simpa using q))
        rw [List.map_map] at this
        exact this
  rw [hes]
  have hin2 : ∀ b ∈ enl bs a s, b.length ≤ 101 := fun b hm => by
    rw [← hes] at hm
    exact (hin b (List.mem_filter.mp hm).1).1
  have hl2 : (enl bs a s).length ≤ bs.length + 1 := by
    rw [← hes, ← hlen]
    exact List.length_filter_le _ _
  refine use_sortK (fun b => .tup [.int (sumW ws b), lX b]) (fun b => .tuple [.int (-(sumW ws b)), .list (b.map fun n => PyData.int (n : Nat))]) (enl bs a s) (by omega) ?_ ?_ ?_ ?_ ?_ ?_
  · exact PySem.W.AllAlike.of fun b c => by simp [PySem.W.alike, PySem.W.alikeAll, alike_nats]
  · exact PySem.W.Sortable.tuples fun b => ⟨_, _, rfl⟩
  · intro b hm
    simp [PyData.depth, PyData.depthAll, depth_nats]
  · intro b hm
    simp [plain, plains, lX, plains_nats]
  · intro b hm
    simp [pR, kNeg, kIx, pyOf, pysOf, lX, pysOf_eq]
  · have hp := List.mergeSort_perm (enl bs a s) (PySem.W.dataLe false fun b : List Nat => PyData.tuple [.int (-(sumW ws b)), .list (b.map fun n => PyData.int (n : Nat))])
    have hs := sort_tup_le (fun b => -(sumW ws b)) (fun b => [.list (b.map fun n => PyData.int (n : Nat))]) (enl bs a s)
    generalize (enl bs a s).mergeSort (PySem.W.dataLe false fun b : List Nat => PyData.tuple [.int (-(sumW ws b)), .list (b.map fun n => PyData.int (n : Nat))]) = bs' at *
    have hl3 := hp.length_eq
    simp [-Bool.exists_bool]
    refine comp_pure (b := fun b => .int (sumW ws b)) (by omega) (fun b hm Z hz => ?_) ?_
    · simp [-Bool.exists_bool]
      exact hz
    · refine comp_pure (b := lX) (by omega) (fun b hm Z hz => ?_) ?_
      · simp [-Bool.exists_bool]
        exact hz
      · have hh := h bs' hp (by
          rw [loads, List.pairwise_map]
          exact hs.imp fun h => by omega)
        rw [tI, loads, List.map_map] at hh
        refine fin_app co ?_ hh
        simp only [blw, blws, lB]
        rw [blws_map _ (fun _ => rfl), blws_map _ (fun x => by simp only [lX, blw]; exact blws_map _ (fun _ => rfl) _)]
        rfl
end PD
set_option Elab.async false
set_option linter.all false
set_option maxRecDepth 100000
set_option maxHeartbeats 4000000
/-! Packings: the search. -/
namespace PD
open PySem PySem.Spec PyProof.Rows L2
/-! ### the memo -/
def deadK (p : Nat × List Int) : D := .tup [.int (p.1 : Nat), tI p.2]
def deadKv (ms : List (Nat × List Int)) : List (D × D) := ms.map fun p => (deadK p, .bl true)
theorem nkOfs_ints : ∀ L : List Int, nkOfs (L.map D.int) = some (L.map NestedKey.num)
  | [] => rfl
  | x :: L => by rw [List.map_cons, nkOfs, nkOfs_ints L]; rfl
theorem nk_deadK (p : Nat × List Int) : nkOf (deadK p) = some (.tup [.num (p.1 : Nat), .tup (p.2.map NestedKey.num)]) := by
  have e : nkOf (tI p.2) = some (.tup (p.2.map NestedKey.num)) := by
    rw [tI, nkOf, nkOfs_ints]
    rfl
  rw [deadK, nkOf, nkOfs, nkOfs, e]
  rfl
theorem nums_inj : ∀ {L M : List Int}, L.map NestedKey.num = M.map NestedKey.num → L = M
  | [], [], _ => rfl
  | [], _ :: _, e => by simp at e
  | _ :: _, [], e => by simp at e
  | x :: L, y :: M, e => by
    simp only [List.map_cons, List.cons.injEq] at e
    have h1 := e.1
    injection h1 with h1
    rw [h1, nums_inj e.2]
theorem nk_inj {p q : Nat × List Int} : nkOf (deadK p) = nkOf (deadK q) ↔ p = q := by
  constructor
  · intro h
    rw [nk_deadK, nk_deadK] at h
    injection h with h
    injection h with h
    simp only [List.cons.injEq, and_true] at h
    obtain ⟨h1, h2⟩ := h
    injection h1 with h1
    injection h2 with h2
    exact Prod.ext (Int.ofNat.inj h1) (nums_inj h2)
  · intro h
    rw [h]
theorem hasK_dead (ms : List (Nat × List Int)) (p : Nat × List Int) : hasK (deadKv ms) (deadK p) = decide (p ∈ ms) := by
  rw [hasK, deadKv, List.any_map, Bool.eq_iff_iff, List.any_eq_true, decide_eq_true_eq]
  constructor
  · rintro ⟨q, hq, e⟩
    have := nk_inj.mp (of_decide_eq_true e)
    rwa [← this]
  · intro h
    exact ⟨p, h, decide_eq_true rfl⟩
theorem put_dead (ms : List (Nat × List Int)) (p : Nat × List Int) : putDic (deadKv ms) (deadK p) (.bl true) = deadKv (if p ∈ ms then ms else ms ++ [p]) := by
  rw [putDic, hasK_dead]
  by_cases h : p ∈ ms
  · rw [if_pos (decide_eq_true h), if_pos h]
    conv => rhs; rw [← List.map_id (deadKv ms)]
    refine List.map_congr_left fun q hq => ?_
    obtain ⟨r, _, rfl⟩ := List.mem_map.mp hq
    simp
  · rw [if_neg (by simpa using h), if_neg h, deadKv, deadKv, List.map_append]
    rfl
theorem depthAll_nums : ∀ L : List Int, NestedKey.depthAll (L.map NestedKey.num) = 0
  | [] => by simp [NestedKey.depthAll]
  | x :: L => by rw [List.map_cons, NestedKey.depthAll, depthAll_nums L]; simp [NestedKey.depth]
theorem depth_dead (p : Nat × List Int) : (NestedKey.tup [.num (p.1 : Nat), .tup (p.2.map NestedKey.num)]).depth ≤ 8 := by
  simp [NestedKey.depth, NestedKey.depthAll, depthAll_nums]
section
variable {κ : Cs} {R : D → Cs → Prop} {RA : List D → Cs → Prop}
@[simp] theorem e_len_lB {bs : List (List Nat)} : dLen [lB bs] κ R ↔ R (.int bs.length) κ := by rw [lB, e_lenL, List.length_map]
@[simp] theorem e_len_lX {b : List Nat} : dLen [lX b] κ R ↔ R (.int b.length) κ := by rw [lX, e_lenL, List.length_map]
@[simp] theorem itAt_lX {b : List Nat} {i : Int} : itAt κ (lX b) i = atI (b.map fun n => .int (n : Nat)) i := rfl
@[simp] theorem e_sl_lX {s : Nat} {b : List Nat} : dSl (lX (s :: b)) (some 1) none κ R ↔ R (lX b) κ := by
  rw [lX, e_slL, show (1 : Int) = ((1 : Nat) : Int) from rfl, cut_lo]
  rfl
theorem isNon_lB {bs : List (List Nat)} : isNon (lB bs) = false := rfl
theorem e_inDead {f : Bool → Bool} {k : Nat} {ms : List (Nat × List Int)} {m : Nat} {L : List Int} (h : κ[k]? = some (some (.dic (deadKv ms)))) (hR : R (.bl (f (decide ((m, L) ∈ ms)))) κ) : dInN f (.tup [.int (m : Nat), tI L]) (.cell k) κ R :=
  ⟨_, _, h, nk_deadK (m, L), depth_dead (m, L), by rw [show (D.tup [.int (m : Nat), tI L]) = deadK (m, L) from rfl, hasK_dead]; exact hR⟩
end
/-! ### the search in plain words -/
structure Cp (ws T : List Int) (ord : List Nat) : Prop where
  n7 : ord.length ≤ 7
  lt : ∀ s ∈ ord, s < ws.length
  pos : ∀ w ∈ ws, 0 ≤ w
  srt : T.Pairwise (· ≥ ·)
def Dead (ws T : List Int) (ord : List Nat) (ms : List (Nat × List Int)) : Prop := ∀ p ∈ ms, ∃ i, i < ord.length ∧ p.1 = ord.length - i ∧ ¬ Can T ((ord.drop (i + 1)).map (wAt ws)) p.2
def bud : Nat → Nat
  | 0 => 0
  | r + 1 => 7 * (bud r + 1)
theorem bud7 : bud 7 ≤ 1000000 := by decide
theorem flat_enl {bs : List (List Nat)} {a s : Nat} : (enl bs a s).flatten.Perm (bs.flatten ++ [s]) := by
  rw [enl]
  split
  · rename_i h
    rw [List.set_eq_take_append_cons_drop, if_pos h, getD_lt h, List.flatten_append, List.flatten_cons]
    have e : bs.flatten = (bs.take a).flatten ++ (bs[a] ++ (bs.drop (a + 1)).flatten) := by
      rw [← List.flatten_cons, ← List.flatten_append, List.getElem_cons_drop, List.take_append_drop]
    rw [e, List.append_assoc, List.append_assoc, List.append_assoc]
    refine List.Perm.append_left _ (List.Perm.append_left _ ?_)
    exact List.perm_append_comm
  · rw [List.flatten_append]
    simp
theorem ne_enl {bs : List (List Nat)} {a s : Nat} (h : ∀ b ∈ bs, b ≠ []) : ∀ b ∈ enl bs a s, b ≠ [] := by
  intro b hb
  rw [enl] at hb
  split at hb
  · rcases List.mem_or_eq_of_mem_set hb with hb | rfl
    · exact h b hb
    · simp
  · rcases List.mem_append.mp hb with hb | hb
    · exact h b hb
    · rw [List.mem_singleton.mp hb]; simp
theorem len_enl {bs : List (List Nat)} {a s : Nat} : (enl bs a s).length ≤ bs.length + 1 := by
  rw [enl]
  split
  · rw [List.length_set]; omega
  · rw [List.length_append]; simp
theorem wAt_pos {ws : List Int} (h : ∀ w ∈ ws, 0 ≤ w) (s : Nat) : 0 ≤ wAt ws s := by
  rw [wAt, List.getD_eq_getElem?_getD]
  cases e : ws[s]? with
  | none => exact Int.le_refl _
  | some x => exact h x (List.mem_of_getElem? e)
def c_completed (n : Nat) : Con := fun ds κ R => ∃ (ws T : List Int) (ord : List Nat) (i : Nat) (bs : List (List Nat)) (k : Nat) (ms : List (Nat × List Int)), ds = [lX (ord.drop i), lN ws, lN T, lB bs, .cell k] ∧ κ[k]? = some (some (.dic (deadKv ms))) ∧ Cp ws T ord ∧
  i ≤ ord.length ∧ ord.length - i < n ∧ bs.length ≤ i ∧ bs.flatten.Perm (ord.take i) ∧ (∀ b ∈ bs, b ≠ []) ∧ fitsB (loads ws bs) T = true ∧ Dead ws T ord ms ∧ ms.length + bud (ord.length - i) ≤ 1000000 ∧
  (∀ ms', ms'.length ≤ ms.length + bud (ord.length - i) → Dead ws T ord ms' → ¬ Can T ((ord.drop i).map (wAt ws)) (loads ws bs) → R .non (κ.set k (some (.dic (deadKv ms'))))) ∧
  (∀ ms' bs', bs'.flatten.Perm ord → bs'.length ≤ ord.length → (∀ b ∈ bs', b ≠ []) → fitsB (loads ws bs') T = true → R (lB bs') (κ.set k (some (.dic (deadKv ms')))))
abbrev N_completed : List Str := ["seats", "weights", "tops", "blocks", "dead", "at", "load", "more", "found"]
abbrev P_completed : List Str := ["seats", "weights", "tops", "blocks", "dead"]
@[reducible] def t_completed (c_rec : Con) : AS :=
  (aSeq (aIfS (aTest (aOp dEq (aVar 0) (aData (aLst aNil)))) (aRet (aVar 3)) aNext)
  (aSeq (aFor (aRng1 (aCons (aOp dAdd (aCB dLen (aCons (aVar 3) aNil)) (aC (.int 1))) aNil)) (aName 5)
  (aSeq (aAsg (aCB c_enlarged (aCons (aVar 3) (aCons (aVar 5) (aCons (aOp dIx (aVar 0) (aC (.int 0))) (aCons (aVar 1) aNil))))) (aGTup 2 (aGCons (aName 6) (aGCons (aName 7) aGNil))))
  (aIfS (aAndT (aTest (aOp (dInN not) (aTup (aCons (aCB dLen (aCons (aVar 0) aNil)) (aCons (aVar 6) aNil))) (aVar 4))) (aTest (aCB c_fits (aCons (aVar 6) (aCons (aVar 2) aNil))))) (aSeq (aAsg (aCB c_rec (aCons (aSl (aVar 0) (aPart (aC (.int 1))) aNoPart) (aCons (aVar 1) (aCons (aVar 2) (aCons (aVar 7) (aCons (aVar 4) aNil)))))) (aName 8))
  (aSeq (aIfS (aTest (aOp dNotN (aVar 8) (aC .non))) (aRet (aVar 8)) aNext)
  (aAsg (aC (.bl true)) (aSubD (aVar 4) (aTup (aCons (aCB dLen (aCons (aVar 0) aNil)) (aCons (aVar 6) aNil))))))) aNext)))
  (aRet (aC .non))))
theorem l_completed (n : Nat) : ∀ ds κ R, c_completed n ds κ R → ds.length = P_completed.length := by
  rintro ds κ R ⟨_, _, _, _, _, _, _, rfl, _⟩
  rfl
theorem n_completed {ds : List D} {κ : Cs} {R : D → Cs → Prop} : ¬ c_completed 0 ds κ R := by
  rintro ⟨_, _, _, _, _, _, _, _, _, _, _, h, _⟩
  omega
theorem set_same {κ : Cs} {k : Nat} {c : Option Ce} (h : κ[k]? = some c) : κ.set k c = κ := by
  apply List.ext_getElem?
  intro j
  by_cases hj : k = j
  · subst hj
    rw [List.getElem?_set_self (List.getElem?_eq_some_iff.mp h).1, h]
  · rw [List.getElem?_set_ne hj]
theorem b_completed (n : Nat) : Body N_completed (t_completed (c_completed n)) (c_completed (n + 1)) := by
  rintro ds κ R co ⟨ws, T, ord, i, bs, k, ms, rfl, hk, cp, hi, hn, hbl, hfl, hne, hft, hd, hms, h1, h2⟩
  have hkl := (List.getElem?_eq_some_iff.mp hk).1
  have hs := fun c : Option Ce => List.getElem?_set_self (l := κ) (a := c) hkl
  simp [-Bool.exists_bool, start, List.replicate]
  by_cases hend : ord.length ≤ i
  · rw [if_pos hend]
    have : i = ord.length := by omega
    subst this
    rw [List.take_length] at hfl
    have := h2 ms bs hfl hbl hne hft
    rw [set_same hk] at this
    exact .inl this
  rw [if_neg hend]
  have hil : i < ord.length := by omega
  obtain ⟨s0, rest, hdr, hrest, hs0⟩ : ∃ s0 rest, ord.drop i = s0 :: rest ∧ ord.drop (i + 1) = rest ∧ ord[i] = s0 := ⟨_, _, (List.getElem_cons_drop hil).symm, rfl, rfl⟩
  have hsl : s0 < ws.length := by rw [← hs0]; exact cp.lt _ (List.getElem_mem hil)
  have hlen : ord.length - i = rest.length + 1 := by rw [← hrest, List.length_drop]; omega
  have hbud : bud (ord.length - i) = 7 * (bud (ord.length - (i + 1)) + 1) := by
    rw [show ord.length - i = (ord.length - (i + 1)) + 1 by omega]
    rfl
  have hn7 := cp.n7
  rw [hdr] at h1 ⊢
  refine ⟨by omega, ?_⟩
  refine loop_rng (fun j ρ κ' => ∃ ms1 x y z u, κ' = κ.set k (some (.dic (deadKv ms1))) ∧ Dead ws T ord ms1 ∧ ms1.length ≤ ms.length + j * (bud (ord.length - (i + 1)) + 1) ∧ (∀ a, a < j → ¬ Can T (rest.map (wAt ws)) (loads ws (enl bs a s0))) ∧
    ρ = [some (lX (s0 :: rest)), some (lN ws), some (lN T), some (lB bs), some (D.cell k), x, y, z, u]) ⟨ms, _, _, _, _, (set_same hk).symm, hd, by omega, fun a h => absurd h (by omega), rfl⟩ ?_ ?_
  · rintro j ρ κ' hj ⟨ms1, x, y, z, u, rfl, hd1, hm1, hno, rfl⟩ Z hZ
    have hblk : ∀ b ∈ bs, b.length ≤ i ∧ ∀ t ∈ b, t < ws.length := by
      intro b hb
      have hsub : ∀ t ∈ b, t ∈ ord := fun t ht => List.mem_of_mem_take (hfl.mem_iff.mp (List.mem_flatten.mpr ⟨b, hb, ht⟩))
      refine ⟨?_, fun t ht => cp.lt t (hsub t ht)⟩
      have h3 := hfl.length_eq
      rw [List.length_take] at h3
      have := (List.sublist_flatten_of_mem hb).length_le
      omega
    have hj7 : j * (bud (ord.length - (i + 1)) + 1) + (bud (ord.length - (i + 1)) + 1) ≤ 7 * (bud (ord.length - (i + 1)) + 1) := by
      have : j + 1 ≤ 7 := by omega
      calc j * (bud (ord.length - (i + 1)) + 1) + (bud (ord.length - (i + 1)) + 1) = (j + 1) * (bud (ord.length - (i + 1)) + 1) := by rw [Nat.succ_mul]
        _ ≤ _ := Nat.mul_le_mul_right _ this
    simp [-Bool.exists_bool]
    refine ⟨bs, j, s0, ws, rfl, by omega, by omega, fun b hb => ⟨hne b hb, by have := (hblk b hb).1; omega, (hblk b hb).2⟩, hsl, fun bs' hp hsrt => ?_⟩
    have hlp : (loads ws bs').Perm (loads ws (enl bs j s0)) := hp.map _
    have hnext : ∀ (x y z u : Option D) (ms2 : List (Nat × List Int)), Dead ws T ord ms2 → ms2.length ≤ ms1.length + (bud (ord.length - (i + 1)) + 1) → ¬ Can T (rest.map (wAt ws)) (loads ws bs') →
        Z [some (lX (s0 :: rest)), some (lN ws), some (lN T), some (lB bs), some (D.cell k), x, y, z, u] (κ.set k (some (.dic (deadKv ms2)))) := by
      intro x y z u ms2 q1 q2 q3
      refine hZ _ _ ⟨ms2, x, y, z, u, rfl, q1, ?_, fun a ha => ?_, rfl⟩
      · rw [Nat.succ_mul]; omega
      · rcases Nat.lt_or_ge a j with q | q
        · exact hno a q
        · have : a = j := by omega
          subst this
          exact fun hc => q3 (can_perm hlp.symm hc)
    have hgp : Dead ws T ord ms1 → (ord.length - i, loads ws bs') ∈ ms1 → ¬ Can T (rest.map (wAt ws)) (loads ws bs') := by
      intro q1 q2
      obtain ⟨i', g1, g2, g3⟩ := q1 _ q2
      have : i' = i := by simp only at g2; omega
      subst this
      rw [hrest] at g3
      exact g3
    have hle' : bs'.length ≤ bs.length + 1 := by rw [hp.length_eq]; exact len_enl
    simp [-Bool.exists_bool]
    refine e_inDead (m := rest.length + 1) (hs _) ?_
    simp [-Bool.exists_bool]
    by_cases hin : (rest.length + 1, loads ws bs') ∈ ms1
    · rw [if_pos hin]
      exact hnext _ _ _ _ ms1 hd1 (by omega) (hgp hd1 (by rw [hlen]; exact hin))
    rw [if_neg hin]
    refine ⟨loads ws bs', T, rfl, by rw [loads, List.length_map]; omega, ?_⟩
    simp [-Bool.exists_bool]
    cases hfits : fitsB (loads ws bs') T with
    | false =>
      rw [if_neg (by decide)]
      refine hnext _ _ _ _ ms1 hd1 (by omega) fun hc => ?_
      have := fits_of_fit hsrt cp.srt (fit_of_can (fun w hw => by
        obtain ⟨t, _, rfl⟩ := List.mem_map.mp hw
        exact wAt_pos cp.pos t) hc)
      rw [hfits] at this
      cases this
    | true =>
      rw [if_pos rfl]
      have hfl' : bs'.flatten.Perm (ord.take (i + 1)) := by
        refine (hp.flatten.trans flat_enl).trans ?_
        rw [List.take_succ_eq_append_getElem hil, hs0]
        exact hfl.append_right _
      refine ⟨ws, T, ord, i + 1, bs', k, ms1, by rw [hrest], hs _, cp, by omega, by omega, by omega, hfl', fun b hb => ne_enl hne b (hp.mem_iff.mp hb), hfits, hd1, by omega, fun ms2 g1 g2 g3 => ?_, fun ms2 bs2 g1 g2 g3 g4 => ?_⟩
      · simp [-Bool.exists_bool, hs]
        rw [hrest] at g3
        refine ⟨_, nk_deadK (rest.length + 1, loads ws bs'), depth_dead _, by rw [deadKv, List.length_map]; omega, ?_⟩
        rw [show (D.tup [.int (↑rest.length + 1), tI (loads ws bs')]) = deadK (rest.length + 1, loads ws bs') from rfl, put_dead]
        refine hnext _ _ _ _ _ ?_ ?_ g3
        · split
          · exact g2
          · intro p hp
            rcases List.mem_append.mp hp with hp | hp
            · exact g2 p hp
            · rw [List.mem_singleton.mp hp]
              exact ⟨i, hil, by simp only; omega, by rw [hrest]; exact g3⟩
        · split
          · omega
          · rw [List.length_append]
            simp only [List.length_cons, List.length_nil]
            omega
      · simp [-Bool.exists_bool, isNon_lB]
        exact .inl (h2 ms2 bs2 g1 g2 g3 g4)
  · rintro ρ κ' ⟨ms1, x, y, z, u, rfl, hd1, hm1, hno, rfl⟩
    simp [-Bool.exists_bool]
    refine .inl (h1 ms1 (by
      have : (bs.length + 1) * (bud (ord.length - (i + 1)) + 1) ≤ 7 * (bud (ord.length - (i + 1)) + 1) := Nat.mul_le_mul_right _ (by omega)
      omega) hd1 fun hc => ?_)
    rw [List.map_cons] at hc
    obtain ⟨a, ha, hc⟩ := can_enl hc
    exact hno a (by omega) hc
end PD
set_option Elab.async false
set_option linter.all false
set_option autoImplicit false
set_option maxRecDepth 100000
set_option maxHeartbeats 4000000
/-! The plain law of packing: from blocks to rooms. -/
namespace PD
structure Packs (ws rooms : List Int) (fs : List Nat) : Prop where
  len : fs.length = ws.length
  lt : ∀ j ∈ fs, j < rooms.length
  fit : ∀ j, j < rooms.length → sumAt ws (fun s => fs.getD s 0) (List.range ws.length) j ≤ rooms.getD j 0
def inner (i : Nat) (fs : List Nat) (b : List Nat) : List Nat := b.foldl (fun fs s => fs.set s i) fs
def fill (fs : List Nat) (ps : List (Nat × List Nat)) : List Nat := ps.foldl (fun fs p => inner p.1 fs p.2) fs
theorem inner_len (i : Nat) : ∀ (b fs : List Nat), (inner i fs b).length = fs.length
  | [], _ => rfl
  | s :: b, fs => by
    show (inner i (fs.set s i) b).length = _
    rw [inner_len i b, List.length_set]
theorem fill_len : ∀ (ps : List (Nat × List Nat)) (fs : List Nat), (fill fs ps).length = fs.length
  | [], _ => rfl
  | p :: ps, fs => by
    show (fill (inner p.1 fs p.2) ps).length = _
    rw [fill_len ps, inner_len]
theorem inner_other (i : Nat) {s : Nat} : ∀ (b fs : List Nat), s ∉ b → (inner i fs b).getD s 0 = fs.getD s 0
  | [], _, _ => rfl
  | t :: b, fs, h => by
    show (inner i (fs.set t i) b).getD s 0 = _
    rw [inner_other i b _ (fun q => h (by simp [q])), List.getD_eq_getElem?_getD, List.getElem?_set_ne (fun q => h (by simp [q])), ← List.getD_eq_getElem?_getD]
theorem inner_at (i : Nat) {s : Nat} : ∀ (b fs : List Nat), s ∈ b → s < fs.length → (inner i fs b).getD s 0 = i
  | t :: b, fs, h, hl => by
    show (inner i (fs.set t i) b).getD s 0 = _
    by_cases q : s ∈ b
    · exact inner_at i b _ q (by rwa [List.length_set])
    · have e : s = t := by
        rcases List.mem_cons.mp h with e | e
        · exact e
        · exact absurd e q
      subst e
      rw [inner_other i b _ q, List.getD_eq_getElem?_getD, List.getElem?_set_self hl]
      rfl
theorem fill_other {s : Nat} : ∀ (ps : List (Nat × List Nat)) (fs : List Nat), (∀ p ∈ ps, s ∉ p.2) → (fill fs ps).getD s 0 = fs.getD s 0
  | [], _, _ => rfl
  | p :: ps, fs, h => by
    show (fill (inner p.1 fs p.2) ps).getD s 0 = _
    rw [fill_other ps _ (fun q hq => h q (by simp [hq])), inner_other _ _ _ (h p (by simp))]
theorem fill_at {s : Nat} : ∀ (ps : List (Nat × List Nat)) (fs : List Nat), (ps.map (·.2)).flatten.Nodup → ∀ p ∈ ps, s ∈ p.2 → s < fs.length → (fill fs ps).getD s 0 = p.1
  | q :: ps, fs, hn, p, hp, hs, hl => by
    show (fill (inner q.1 fs q.2) ps).getD s 0 = _
    rw [List.map_cons, List.flatten_cons, List.nodup_append] at hn
    rcases List.mem_cons.mp hp with rfl | hp
    · rw [fill_other ps _ (fun r hr hsr => hn.2.2 s hs s (List.mem_flatten.mpr ⟨r.2, List.mem_map.mpr ⟨r, hr, rfl⟩, hsr⟩) rfl)]
      exact inner_at _ _ _ hs hl
    · exact fill_at ps _ hn.2.1 p hp hs (by rwa [inner_len])
theorem perm_sum {a b : List Int} (h : a.Perm b) : a.sum = b.sum := by
  induction h with
  | nil => rfl
  | cons x _ ih => rw [List.sum_cons, List.sum_cons, ih]
  | swap x y l => simp only [List.sum_cons]; omega
  | trans _ _ h1 h2 => exact h1.trans h2
theorem zip_sub : ∀ (xs : List Nat) (ys : List (List Nat)), ((xs.zip ys).map (·.1)).Sublist xs
  | [], _ => by simp
  | x :: xs, [] => by simp
  | x :: xs, y :: ys => by
    rw [List.zip_cons_cons, List.map_cons]
    exact (zip_sub xs ys).cons₂ x
theorem sumAt_perm {ws : List Int} {f : Nat → Nat} {o o' : List Nat} (h : o.Perm o') (j : Nat) : sumAt ws f o j = sumAt ws f o' j := by
  unfold sumAt
  have p := (h.filter fun s => decide (f s = j)).map (wAt ws)
  exact perm_sum p
theorem sumAt_app (ws : List Int) (f : Nat → Nat) (o o' : List Nat) (j : Nat) : sumAt ws f (o ++ o') j = sumAt ws f o j + sumAt ws f o' j := by
  unfold sumAt
  rw [List.filter_append, List.map_append, List.sum_append]
theorem sumAt_all {ws : List Int} {f : Nat → Nat} {o : List Nat} {j : Nat} (h : ∀ s ∈ o, f s = j) : sumAt ws f o j = sumW ws o := by
  unfold sumAt sumW
  rw [List.filter_eq_self.mpr fun s hs => decide_eq_true (h s hs)]
theorem sumAt_none {ws : List Int} {f : Nat → Nat} {o : List Nat} {j : Nat} (h : ∀ s ∈ o, f s ≠ j) : sumAt ws f o j = 0 := by
  unfold sumAt
  rw [List.filter_eq_nil_iff.mpr fun s hs => by simpa using h s hs]
  rfl
theorem sum_pairs {ws : List Int} {f : Nat → Nat} {j : Nat} {r : Int} (hr : 0 ≤ r) : ∀ ps : List (Nat × List Nat), (∀ p ∈ ps, ∀ s ∈ p.2, f s = p.1) → (ps.map (·.1)).Nodup → (∀ p ∈ ps, p.1 = j → sumW ws p.2 ≤ r) → sumAt ws f (ps.map (·.2)).flatten j ≤ r
  | [], _, _, _ => hr
  | p :: ps, hf, hn, hw => by
    rw [List.map_cons, List.nodup_cons] at hn
    rw [List.map_cons, List.flatten_cons, sumAt_app]
    by_cases q : p.1 = j
    · have e1 : sumAt ws f p.2 j = sumW ws p.2 := sumAt_all fun s hs => by rw [hf p (by simp) s hs, q]
      have e2 : sumAt ws f (ps.map (·.2)).flatten j = 0 := sumAt_none fun s hs => by
        obtain ⟨b, hb, hs⟩ := List.mem_flatten.mp hs
        obtain ⟨p', hp', rfl⟩ := List.mem_map.mp hb
        rw [hf p' (by simp [hp']) s hs]
        intro e
        exact hn.1 (by rw [q, ← e]; exact List.mem_map.mpr ⟨p', hp', rfl⟩)
      have := hw p (by simp) q
      omega
    · have e1 : sumAt ws f p.2 j = 0 := sumAt_none fun s hs => by rw [hf p (by simp) s hs]; exact q
      have := sum_pairs (f := f) (j := j) hr ps (fun p hp => hf p (by simp [hp])) hn.2 (fun p hp => hw p (by simp [hp]))
      omega
/-- two falling lists of the same numbers are one -/
theorem falling_one : ∀ {a b : List Int}, a.Perm b → a.Pairwise (· ≥ ·) → b.Pairwise (· ≥ ·) → a = b
  | [], b, h, _, _ => (List.Perm.nil_eq h)
  | x :: a, [], h, _, _ => absurd h.length_eq (by simp)
  | x :: a, y :: b, h, ha, hb => by
    rw [List.pairwise_cons] at ha hb
    have h1 : x ≤ y := by
      rcases List.mem_cons.mp (h.mem_iff.mp (List.mem_cons_self (a := x) (l := a))) with e | e
      · omega
      · exact hb.1 x e
    have h2 : y ≤ x := by
      rcases List.mem_cons.mp (h.mem_iff.mpr (List.mem_cons_self (a := y) (l := b))) with e | e
      · omega
      · exact ha.1 y e
    have e : x = y := by omega
    subst e
    rw [falling_one h.cons_inv ha.2 hb.2]
theorem packs_of {ws rooms T : List Int} {ord ordR : List Nat} {bs : List (List Nat)} (ho : ord.Perm (List.range ws.length)) (hR : ordR.Perm (List.range rooms.length)) (hs : ordR.Pairwise fun a b => -(wAt rooms a) ≤ -(wAt rooms b)) (hT : T.Perm rooms) (hTs : T.Pairwise (· ≥ ·))
    (h0 : ∀ r ∈ rooms, 0 ≤ r) (hf : bs.flatten.Perm ord) (hfit : fitsB (loads ws bs) T = true) : Packs ws rooms (fill (List.replicate ws.length 0) (ordR.zip bs)) := by
  have eT : ordR.map (wAt rooms) = T := by
    refine falling_one ?_ ?_ hTs
    · refine ((hR.map (wAt rooms)).trans ?_).trans hT.symm
      have : (List.range rooms.length).map (wAt rooms) = rooms := by
        apply List.ext_getElem
        · simp
        · intro i h1 h2
          rw [List.getElem_map, List.getElem_range, wAt, List.getD_eq_getElem?_getD, List.getElem?_eq_getElem h2]
          rfl
      rw [this]
    · rw [List.pairwise_map]
      exact hs.imp fun h => by omega
  unfold fitsB at hfit
  rw [Bool.and_eq_true, decide_eq_true_eq, loads, List.length_map] at hfit
  obtain ⟨hl, hz⟩ := hfit
  have hlR : bs.length ≤ ordR.length := by rw [← eT, List.length_map] at hl; exact hl
  have e2 : (ordR.zip bs).map (·.2) = bs := by rw [List.map_snd_zip hlR]
  have hnd : bs.flatten.Nodup := (hf.trans ho).nodup_iff.mpr List.nodup_range
  have hlt : ∀ s ∈ bs.flatten, s < ws.length := fun s h => List.mem_range.mp ((hf.trans ho).mem_iff.mp h)
  have hat : ∀ p ∈ ordR.zip bs, ∀ s ∈ p.2, (fill (List.replicate ws.length 0) (ordR.zip bs)).getD s 0 = p.1 := fun p hp s hs => by
    have hs' : s ∈ bs.flatten := List.mem_flatten.mpr ⟨p.2, by rw [← e2]; exact List.mem_map.mpr ⟨p, hp, rfl⟩, hs⟩
    exact fill_at _ _ (by rw [e2]; exact hnd) p hp hs (by rw [List.length_replicate]; exact hlt s hs')
  have hw : ∀ p ∈ ordR.zip bs, sumW ws p.2 ≤ rooms.getD p.1 0 := fun p hp => by
    obtain ⟨i, hi, e⟩ := List.mem_iff_getElem.mp hp
    rw [List.length_zip] at hi
    rw [List.getElem_zip] at e
    subst e
    rw [List.all_map, List.all_eq_true] at hz
    have hiT : i < T.length := by omega
    have := hz (sumW ws bs[i], T[i]) (List.mem_iff_getElem.mpr ⟨i, by rw [List.length_zip, List.length_map]; omega, by rw [List.getElem_zip, List.getElem_map]⟩)
    have h3 : sumW ws bs[i] ≤ T[i] := of_decide_eq_true this
    have e3 : T[i] = rooms.getD ordR[i] 0 := by
      subst eT
      rw [List.getElem_map]
      rfl
    rw [← e3]
    exact h3
  have hzn : ((ordR.zip bs).map (·.1)).Nodup := by
    have hsub : ((ordR.zip bs).map (·.1)).Sublist ordR := zip_sub _ _
    exact hsub.nodup (hR.nodup_iff.mpr List.nodup_range)
  refine ⟨by rw [fill_len, List.length_replicate], fun j hj => ?_, fun j hj => ?_⟩
  · obtain ⟨s, hs, e⟩ := List.mem_iff_getElem.mp hj
    rw [fill_len, List.length_replicate] at hs
    have hm : s ∈ bs.flatten := (hf.trans ho).mem_iff.mpr (List.mem_range.mpr hs)
    obtain ⟨b, hb, hsb⟩ := List.mem_flatten.mp hm
    rw [← e2] at hb
    obtain ⟨p, hp, rfl⟩ := List.mem_map.mp hb
    have := hat p hp s hsb
    rw [List.getD_eq_getElem?_getD, List.getElem?_eq_getElem (by rw [fill_len, List.length_replicate]; exact hs), Option.getD_some, e] at this
    rw [this]
    exact List.mem_range.mp (hR.mem_iff.mp (List.of_mem_zip (a := p.1) (b := p.2) hp).1)
  · have h1 := sum_pairs (ws := ws) (f := fun s => (fill (List.replicate ws.length 0) (ordR.zip bs)).getD s 0) (j := j) (r := rooms.getD j 0) (by
      rw [List.getD_eq_getElem?_getD, List.getElem?_eq_getElem hj]
      exact h0 _ (List.getElem_mem hj)) (ordR.zip bs) hat hzn (fun p hp e => by rw [← e]; exact hw p hp)
    rw [e2] at h1
    rw [← sumAt_perm (hf.trans ho)]
    exact h1
theorem can_of_packs {ws rooms T : List Int} {ord fs : List Nat} (ho : ord.Perm (List.range ws.length)) (hT : T.Perm rooms) (p : Packs ws rooms fs) : Can T (ord.map (wAt ws)) (loads ws []) := by
  refine can_of_assign (rooms := rooms) (f := fun s => fs.getD s 0) hT.symm (fun s hs => ?_) fun j hj => ?_
  · have h1 : s < ws.length := List.mem_range.mp (ho.mem_iff.mp hs)
    have h2 : s < fs.length := by rw [p.len]; exact h1
    show fs.getD s 0 < rooms.length
    rw [List.getD_eq_getElem?_getD, List.getElem?_eq_getElem h2]
    exact p.lt _ (List.getElem_mem h2)
  · rw [sumAt_perm ho]
    exact p.fit j hj
end PD
set_option Elab.async false
set_option linter.all false
set_option maxRecDepth 100000
set_option maxHeartbeats 4000000
/-! Packings: pack, packing. -/
namespace PD
open PySem PySem.Spec PyProof.Rows L2
def c_pack : Con := fun ds κ R => ∃ ws rooms : List Int, ds = [lN ws, lN rooms] ∧ ws.length ≤ 7 ∧ (∀ w ∈ ws, 0 ≤ w) ∧ rooms.length ≤ 1000 ∧ (∀ r ∈ rooms, 0 ≤ r) ∧
  (∀ fs, Packs ws rooms fs → R (lX fs) κ) ∧ ((¬ ∃ fs, Packs ws rooms fs) → R .non κ)
def c_packing : Con := fun ds κ R => ∃ (ws qs : List Int) (ss : List Sd), ds = [cO ws qs, .lst (ss.map sideD)] ∧ GoodC ws qs ∧ (∀ s ∈ ss, s.1 < qs.length) ∧ ss.length ≤ 1000 ∧
  (∀ fs, Packs ws (ss.map (room ws qs)) fs → R (lX fs) κ) ∧ ((¬ ∃ fs, Packs ws (ss.map (room ws qs)) fs) → R .non κ)
abbrev N_pack : List Str := ["weights", "rooms", "seats", "seat", "blocks", "order", "index", "found", "block"]
abbrev P_pack : List Str := ["weights", "rooms"]
@[reducible] def t_pack : AS :=
  (aSeq (aAsg (aSortKR 3 (fun ρ => (kNeg (((ρ[0]?).join).bind fun d => ((ρ[3]?).join).bind fun i => kIx d i))) (aCB dLen (aCons (aVar 0) aNil))) (aName 2))
  (aSeq (aAsg (aCB (c_completed 8) (aCons (aVar 2) (aCons (aVar 0) (aCons (aSortR (aVar 1)) (aCons (aData (aLst aNil)) (aCons aDicNew aNil)))))) (aName 4))
  (aSeq (aIfS (aTest (aOp dIsN (aVar 4) (aC .non))) (aRet (aC .non)) aNext)
  (aSeq (aAsg (aSortKR 6 (fun ρ => (kNeg (((ρ[1]?).join).bind fun d => ((ρ[6]?).join).bind fun i => kIx d i))) (aCB dLen (aCons (aVar 1) aNil))) (aName 5))
  (aSeq (aAsg (aCell (aMulL (aData (aLst (aCons (aC (.int 0)) aNil))) (aCB dLen (aCons (aVar 0) aNil)))) (aName 7))
  (aSeq (aFor (aZipM (aCons (aVar 5) (aCons (aVar 4) aNil))) (aGTup 2 (aGCons (aName 6) (aGCons (aName 8) aGNil)))
  (aFor (aIt (aVar 8)) (aName 3)
  (aAsg (aVar 6) (aSub (aVar 7) (aVar 3)))))
  (aFrzV 7 (aRet (aVar 7)))))))))
abbrev N_packing : List Str := ["council", "sides"]
abbrev P_packing : List Str := ["council", "sides"]
@[reducible] def t_packing : AS :=
  (aRet (aCB c_pack (aCons (aMeth "Council" "weights" c_Council_weights (aVar 0) aNil) (aCons (aCB c_rooms_of (aCons (aVar 0) (aCons (aVar 1) aNil))) aNil))))
theorem bud_le {r : Nat} (h : r ≤ 7) : bud r ≤ 1000000 := by
  have : r = 0 ∨ r = 1 ∨ r = 2 ∨ r = 3 ∨ r = 4 ∨ r = 5 ∨ r = 6 ∨ r = 7 := by omega
  rcases this with rfl | rfl | rfl | rfl | rfl | rfl | rfl | rfl <;> decide
theorem l_pack : ∀ ds κ R, c_pack ds κ R → ds.length = P_pack.length := by
  rintro ds κ R ⟨_, _, rfl, _⟩
  rfl
theorem l_packing : ∀ ds κ R, c_packing ds κ R → ds.length = P_packing.length := by
  rintro ds κ R ⟨_, _, _, rfl, _⟩
  rfl
theorem blw_lX (n : Nat) (b : List Nat) : blw n (lX b) = true := by
  simp only [lX, blw]
  exact blws_map _ (fun _ => rfl) _
theorem key_at {ws : List Int} {i : Nat} (h : i < ws.length) (hi : (i : Int) < 1000000000) : kIx (.list (ws.map .int)) (.int (i : Nat)) = some (.int (wAt ws i)) := by
  show (if 0 ≤ ((i : Nat) : Int) ∧ ((i : Nat) : Int) < 1000000000 then (ws.map PyData.int)[((i : Nat) : Int).toNat]? else none) = _
  rw [if_pos ⟨Int.natCast_nonneg _, hi⟩, Int.toNat_natCast, List.getElem?_map, List.getElem?_eq_getElem h, wAt_lt h]
  rfl
theorem plains_ints : ∀ ns : List Int, plains (ns.map D.int) = true
  | [] => rfl
  | n :: ns => by rw [List.map_cons, plains, plains_ints ns]; rfl
@[simp] theorem plain_lN (ns : List Int) : plain (lN ns) = true := by rw [lN, plain, plains_ints]
@[simp] theorem pyOf_lN (ns : List Int) : pyOf (lN ns) = .list (ns.map .int) := by
  rw [lN, pyOf, pysOf_eq, List.map_map]
  rfl
/-- the keys of pack's two lambdas, whatever the indexing is: the kernel shall not look into it -/
theorem key_a (f : PyData → PyData → Option PyData) (ws rooms : List Int) (i : Nat) (w : Int) (h : f (.list (ws.map .int)) (.int (i : Nat)) = some (.int w)) : (fun ρ : PRho => kNeg (((ρ[0]?).join).bind fun d => ((ρ[3]?).join).bind fun i => f d i)) ((pR [some (lN ws), some (lN rooms), none, none, none, none, none, none, none]).set 3 (some (.int (i : Nat)))) = some (.int (-w)) := by
  simp [pR, kNeg, h]
theorem key_b (f : PyData → PyData → Option PyData) (ws rooms : List Int) (x y : D) (i : Nat) (w : Int) (h : f (.list (rooms.map .int)) (.int (i : Nat)) = some (.int w)) : (fun ρ : PRho => kNeg (((ρ[1]?).join).bind fun d => ((ρ[6]?).join).bind fun i => f d i)) ((pR [some (lN ws), some (lN rooms), some x, none, some y, none, none, none, none]).set 6 (some (.int (i : Nat)))) = some (.int (-w)) := by
  simp [pR, kNeg, h]
theorem room_pos {ws qs : List Int} (g : GoodC ws qs) {s : Sd} (h : s.1 < qs.length) : 0 ≤ room ws qs s := by
  have := g.q (qs.getD s.1 0) (by rw [getD_lt h]; exact List.getElem_mem h)
  rw [room]
  split <;> omega
theorem b_packing : Body N_packing t_packing c_packing := by
  rintro ds κ R co ⟨ws, qs, ss, rfl, g, hs, hn, h1, h2⟩
  simp [-Bool.exists_bool, start, cO, -List.lookup_eq_none_iff, lk3]
  refine ⟨ws, qs, rfl, ?_⟩
  refine ⟨ws, qs, ss, rfl, hs, hn, ?_⟩
  refine ⟨ws, ss.map (room ws qs), rfl, g.w7, fun w hw => by have := g.w1 w hw; omega, by rw [List.length_map]; exact hn, fun r hr => ?_, fun fs p => .inl (h1 fs p), fun n => .inl (h2 n)⟩
  obtain ⟨s, hm, rfl⟩ := List.mem_map.mp hr
  exact room_pos g (hs s hm)
theorem b_pack : Body N_pack t_pack c_pack := by
  rintro ds κ R co ⟨ws, rooms, rfl, hn, hw, hr, hr0, h1, h2⟩
  simp [-Bool.exists_bool, start, List.replicate]
  refine use_sortKR (fun i => -(wAt ws i)) ws.length (by omega) (fun i hi => ?_) fun ord hord _ => ?_
  · exact key_a kIx ws rooms i _ (key_at hi (by omega))
  rw [show (D.lst (ord.map fun i => D.int (i : Nat))) = lX ord from rfl]
  refine sortRK_ints.mpr fun T hT hTs => ?_
  have hTs' : T.Pairwise (· ≥ ·) := hTs
  rw [show (D.lst (T.map D.int)) = lN T from rfl]
  have hmem : ∀ s ∈ ord, s < ws.length := fun s hs => List.mem_range.mp (hord.mem_iff.mp hs)
  have hol : ord.length = ws.length := by rw [hord.length_eq, List.length_range]
  refine ⟨ws, T, ord, 0, [], κ.length, [], rfl, own_get rfl, ⟨by omega, hmem, hw, hTs'⟩, by omega, by omega, by simp, by simp, (fun _ h => nomatch h), by simp [fitsB, loads], (fun _ h => nomatch h), ?_, fun ms' _ _ hno => ?_, fun ms' bs hfl hbl hne hfit => ?_⟩
  · show 0 + bud (ord.length - 0) ≤ 1000000
    rw [Nat.zero_add]
    exact bud_le (by omega)
  · simp [-Bool.exists_bool]
    refine fin_app co rfl (h2 ?_)
    rintro ⟨fs, p⟩
    exact hno (can_of_packs hord hT p)
  · simp [-Bool.exists_bool, isNon_lB]
    refine use_sortKR (fun i => -(wAt rooms i)) rooms.length (by omega) (fun i hi => ?_) fun ordR hR hRs => ?_
    · exact key_b kIx ws rooms _ _ i _ (key_at hi (by omega))
    refine ⟨by omega, by omega, ?_⟩
    rw [lB, zipMK_ll, zipD_map]
    have h0 : ∀ s ∈ bs.flatten, s < ws.length := fun s hs => hmem s (hfl.mem_iff.mp hs)
    have hps : ∀ p ∈ ordR.zip bs, ∀ s ∈ p.2, s < ws.length := fun p hp s hs => h0 s (List.mem_flatten.mpr ⟨p.2, (List.of_mem_zip (a := p.1) (b := p.2) hp).2, hs⟩)
    refine loop_map (fun ps ρ κ' => ∃ fs x y z, κ' = κ ++ [some (.dic (deadKv ms')), some (.lst (fs.map fun n => D.int (n : Nat)))] ∧ fs.length = ws.length ∧ fill fs ps = fill (List.replicate ws.length 0) (ordR.zip bs) ∧ (∀ p ∈ ps, ∀ s ∈ p.2, s < ws.length) ∧
      ρ = [some (lN ws), some (lN rooms), some (lX ord), x, some (lB bs), some (lX ordR), y, some (.cell (κ.length + 1)), z]) ⟨List.replicate ws.length 0, none, none, none, by simp, by simp, rfl, hps, by simp [lB, lX]⟩ ?_ ?_
    · rintro p ps ρ κ' ⟨fs, x, y, z, rfl, hfs, hfill, hlt, rfl⟩ Z hZ
      simp [-Bool.exists_bool]
      refine loop_map (fun b ρ κ' => ∃ fs1 x, κ' = κ ++ [some (.dic (deadKv ms')), some (.lst (fs1.map fun n => D.int (n : Nat)))] ∧ fs1.length = ws.length ∧ inner p.1 fs1 b = inner p.1 fs p.2 ∧ (∀ s ∈ b, s < ws.length) ∧
        ρ = [some (lN ws), some (lN rooms), some (lX ord), x, some (lB bs), some (lX ordR), some (.int (p.1 : Nat)), some (.cell (κ.length + 1)), some (lX p.2)]) ⟨fs, _, rfl, hfs, rfl, hlt p (by simp), rfl⟩ ?_ ?_
      · rintro s b ρ κ' ⟨fs1, x, rfl, hf1, hin, hlt1, rfl⟩ Y hY
        have hs := hlt1 s (by simp)
        simp [-Bool.exists_bool, own_get1 rfl, own_set1 rfl]
        refine ⟨s, ixN_lt (by rw [hf1]; exact hs), ?_⟩
        refine hY _ _ ⟨fs1.set s p.1, _, by rw [List.map_set], by rw [List.length_set]; exact hf1, hin, fun t ht => hlt1 t (by simp [ht]), rfl⟩
      · rintro ρ κ' ⟨fs1, x, rfl, hf1, hin, hlt1, rfl⟩
        refine hZ _ _ ⟨fs1, _, _, _, rfl, hf1, ?_, fun q hq => hlt q (by simp [hq]), rfl⟩
        rw [← hfill]
        show fill fs1 ps = fill (inner p.1 fs p.2) ps
        rw [← hin]
        rfl
    · rintro ρ κ' ⟨fs, x, y, z, rfl, hfs, hfill, hlt, rfl⟩
      simp [-Bool.exists_bool, own_get1 rfl, own_set1 rfl]
      refine fin_app co (blw_lX _ _) (h1 fs ?_)
      have e : fs = fill (List.replicate ws.length 0) (ordR.zip bs) := hfill
      rw [e]
      exact packs_of hord hR hRs hT hTs' hr0 hfl hfit
end PD
set_option Elab.async false
set_option linter.all false
set_option autoImplicit false
set_option maxRecDepth 100000
set_option maxHeartbeats 4000000
/-! The plain law of bounds: what a made row meets, and packings. -/
namespace PD
abbrev Bd := Sd × Int
def meetsB (row : List Int) (b : Bd) : Bool := if b.1.2 = true then decide (b.2 ≤ row.getD b.1.1 0) else decide (row.getD b.1.1 0 ≤ b.2)
/-- the sum of w over the numbers below n that p takes -/
def sumIf (n : Nat) (p : Nat → Bool) (w : Nat → Int) : Int := (((List.range n).filter p).map w).sum
def missK (ws : List Int) (rows : List (List Int)) (b : Bd) : Int := sumIf ws.length (fun k => !meetsB (rows.getD k []) b) (wAt ws)
theorem wAt_nn {ws : List Int} (h : ∀ w ∈ ws, 0 ≤ w) (s : Nat) : 0 ≤ wAt ws s := by
  rw [wAt, List.getD_eq_getElem?_getD]
  cases e : ws[s]? with
  | none => exact Int.le_refl _
  | some x => exact h x (List.mem_of_getElem? e)
theorem sums_le {p q : Nat → Bool} {w : Nat → Int} : ∀ l : List Nat, (∀ k ∈ l, p k = true → q k = true) → (∀ k ∈ l, 0 ≤ w k) → ((l.filter p).map w).sum ≤ ((l.filter q).map w).sum
  | [], _, _ => Int.le_refl _
  | k :: l, h, h0 => by
    have ih := sums_le (p := p) (q := q) (w := w) l (fun k hk => h k (by simp [hk])) (fun k hk => h0 k (by simp [hk]))
    have hk := h k (by simp)
    have hw := h0 k (by simp)
    rw [List.filter_cons, List.filter_cons]
    by_cases h1 : p k = true
    · rw [if_pos h1, if_pos (hk h1), List.map_cons, List.map_cons, List.sum_cons, List.sum_cons]
      omega
    · rw [if_neg h1]
      split
      · rw [List.map_cons, List.sum_cons]
        omega
      · exact ih
theorem sums_not {p : Nat → Bool} {w : Nat → Int} : ∀ l : List Nat, ((l.filter p).map w).sum + ((l.filter fun k => !p k).map w).sum = (l.map w).sum
  | [] => rfl
  | k :: l => by
    have ih := sums_not (p := p) (w := w) l
    rw [List.filter_cons, List.filter_cons, List.map_cons, List.sum_cons]
    cases h : p k with
    | true =>
      simp only [Bool.not_true, if_true, List.map_cons, List.sum_cons]
      rw [if_neg (by decide)]
      omega
    | false =>
      simp only [Bool.not_false, if_true, List.map_cons, List.sum_cons]
      rw [if_neg (by decide)]
      omega
theorem sums_congr {p q : Nat → Bool} {w : Nat → Int} (l : List Nat) (h : ∀ k ∈ l, p k = q k) : ((l.filter p).map w).sum = ((l.filter q).map w).sum := by
  rw [List.filter_congr h]
theorem zip_range {α β : Type} (x0 : α) (y0 : β) (xs : List α) (ys : List β) (h : xs.length = ys.length) : xs.zip ys = (List.range ys.length).map fun k => (xs.getD k x0, ys.getD k y0) := by
  apply List.ext_getElem
  · simp [h]
  · intro i h1 h2
    rw [List.length_map, List.length_range] at h2
    rw [List.getElem_zip, List.getElem_map, List.getElem_range, getD_lt (by omega), getD_lt h2]
theorem Wt_map {e : Nat → Int} {w : Nat → Int} {u : Int} : ∀ l : List Nat, Wt (l.map fun k => (e k, w k)) u = ((l.filter fun k => decide (e k ≤ u)).map w).sum
  | [] => rfl
  | k :: l => by
    rw [List.map_cons, Wt, Wt_map l, List.filter_cons]
    by_cases h : e k ≤ u
    · rw [if_pos h, if_pos (decide_eq_true h), List.map_cons, List.sum_cons]
    · rw [if_neg h, if_neg (by simpa using h)]
      omega
theorem wsum {ws : List Int} : ((List.range ws.length).map (wAt ws)).sum = ws.sum := by
  have : (List.range ws.length).map (wAt ws) = ws := by
    apply List.ext_getElem
    · simp
    · intro i h1 h2
      rw [List.getElem_map, List.getElem_range, wAt, getD_lt h2]
  rw [this]
theorem Wt_col {ws : List Int} {rows : List (List Int)} {c : Nat} {u : Int} (hl : rows.length = ws.length) : Wt ((colOf rows c).zip ws) u = sumIf ws.length (fun k => decide ((rows.getD k []).getD c 0 ≤ u)) (wAt ws) := by
  rw [zip_range 0 0 _ _ (by rw [colOf, List.length_map, hl])]
  have e := Wt_map (e := fun k => (colOf rows c).getD k 0) (w := wAt ws) (u := u) (List.range ws.length)
  have e' : (List.range ws.length).map (fun k => ((colOf rows c).getD k 0, wAt ws k)) = (List.range ws.length).map fun k => ((colOf rows c).getD k 0, ws.getD k 0) := rfl
  rw [← e', e]
  refine sums_congr _ fun k hk => ?_
  have hk := List.mem_range.mp hk
  have h1 : k < rows.length := by omega
  have : (colOf rows c).getD k 0 = (rows.getD k []).getD c 0 := by
    rw [getD_lt (by rw [colOf, List.length_map]; exact h1), getD_lt h1]
    simp [colOf]
  rw [this]
theorem outs_at {ws qs : List Int} {rows : List (List Int)} {c : Nat} (h : c < qs.length) : (outs ws qs rows).getD c 0 = pick ws (qs.getD c 0) (colOf rows c) := by
  rw [outs, getD_lt (by simpa using h), List.getElem_map, List.getElem_range]
/-- a made row meets a bound exactly if the seats whose rows miss it are light enough -/
theorem made_meets {ws qs : List Int} {rows : List (List Int)} (g : GoodC ws qs) (hl : rows.length = ws.length) (b : Bd) (hb : b.1.1 < qs.length) : meetsB (outs ws qs rows) b = decide (missK ws rows b ≤ room ws qs b.1) := by
  obtain ⟨⟨c, way⟩, v⟩ := b
  have hq := g.q (qs.getD c 0) (by rw [getD_lt hb]; exact List.getElem_mem hb)
  have hw : ∀ w ∈ ws, 1 ≤ w := fun w h => (g.w1 w h).1
  have hlc : (colOf rows c).length = ws.length := by rw [colOf, List.length_map, hl]
  have sp := pick_spec hlc hw (show 0 < qs.getD c 0 by omega) hq.2
  have hc : (outs ws qs rows).getD c 0 = pick ws (qs.getD c 0) (colOf rows c) := outs_at hb
  cases way with
  | true =>
    have e : missK ws rows ((c, true), v) = Wt ((colOf rows c).zip ws) (v - 1) := by
      rw [Wt_col hl, missK]
      refine sums_congr _ fun k _ => ?_
      simp only [meetsB, if_true]
      rw [Bool.eq_iff_iff]
      simp only [Bool.not_eq_true', decide_eq_false_iff_not, decide_eq_true_eq]
      omega
    rw [e]
    simp only [meetsB, if_true, room, hc]
    rw [decide_eq_decide]
    constructor
    · intro h
      have := sp.2 (v - 1) (by omega)
      omega
    · intro h
      have := pick_ge hlc hw (show 0 < qs.getD c 0 by omega) hq.2 (u := v - 1) (by omega)
      omega
  | false =>
    have e : missK ws rows ((c, false), v) = ws.sum - Wt ((colOf rows c).zip ws) v := by
      have e1 := sums_not (p := fun k => decide ((rows.getD k []).getD c 0 ≤ v)) (w := wAt ws) (List.range ws.length)
      rw [wsum] at e1
      rw [Wt_col hl]
      have e2 : missK ws rows ((c, false), v) = (((List.range ws.length).filter fun k => !decide ((rows.getD k []).getD c 0 ≤ v)).map (wAt ws)).sum := by
        rw [missK]
        refine sums_congr _ fun k _ => ?_
        simp [meetsB]
      rw [e2]
      unfold sumIf
      omega
    rw [e]
    simp only [meetsB, if_false, room, hc, Bool.false_eq_true]
    rw [decide_eq_decide]
    constructor
    · intro h
      have := Wt_mono (ps := (colOf rows c).zip ws) (zip_nonneg hw) h
      omega
    · intro h
      exact pick_le hlc hw (show 0 < qs.getD c 0 by omega) hq.2 (by omega)
/-! ### rows that miss sides -/
def lastSide (ss : List Sd) (c : Nat) : Option Sd := ss.reverse.find? fun s => decide (s.1 = c)
def missAt (v x : Int) : Option Sd → Prop
  | none => x = v
  | some s => if s.2 = true then x < v else v < x
structure Miss (values : List Int) (ss : List Sd) (row : List Int) : Prop where
  len : row.length = values.length
  at_ : ∀ c, c < values.length → missAt (values.getD c 0) (row.getD c 0) (lastSide ss c)
theorem miss_nil (values : List Int) : Miss values [] values := ⟨rfl, fun _ _ => rfl⟩
theorem last_app (ss : List Sd) (s : Sd) (c : Nat) : lastSide (ss ++ [s]) c = if s.1 = c then some s else lastSide ss c := by
  rw [lastSide, List.reverse_append]
  simp only [List.reverse_cons, List.reverse_nil, List.nil_append, List.singleton_append, List.find?_cons]
  by_cases h : s.1 = c
  · rw [if_pos h, decide_eq_true h]
  · rw [if_neg h, decide_eq_false h]
    rfl
theorem miss_step {values row : List Int} {ss : List Sd} {s : Sd} {x : Int} (m : Miss values ss row) (hs : s.1 < values.length) (hx : if s.2 = true then x < values.getD s.1 0 else values.getD s.1 0 < x) : Miss values (ss ++ [s]) (row.set s.1 x) := by
  refine ⟨by rw [List.length_set]; exact m.len, fun c hc => ?_⟩
  rw [last_app]
  by_cases h : s.1 = c
  · subst h
    rw [if_pos rfl, List.getD_eq_getElem?_getD (l := row.set s.1 x), List.getElem?_set_self (by rw [m.len]; exact hs)]
    exact hx
  · rw [if_neg h, List.getD_eq_getElem?_getD (l := row.set s.1 x), List.getElem?_set_ne h, ← List.getD_eq_getElem?_getD]
    exact m.at_ c hc
theorem miss_one {values row : List Int} {s t : Sd} (m : Miss values [s] row) (ht : t.1 < values.length) : meetsB row (t, values.getD t.1 0) = !decide (t = s) := by
  have := m.at_ t.1 ht
  rw [show ([s] : List Sd) = [] ++ [s] from rfl, last_app] at this
  obtain ⟨tc, tw⟩ := t
  obtain ⟨sc, sw⟩ := s
  by_cases h : sc = tc
  · subst h
    rw [if_pos rfl] at this
    simp only [missAt] at this
    cases sw <;> cases tw <;> simp [meetsB] at this ⊢ <;> omega
  · rw [if_neg h] at this
    have e : row.getD tc 0 = values.getD tc 0 := this
    have hne : ¬ (tc, tw) = (sc, sw) := fun q => h (by injection q with q1 q2; exact q1.symm)
    rw [decide_eq_false hne]
    simp only [meetsB, e]
    simp
theorem miss_last {values row : List Int} {ss : List Sd} {s : Sd} (m : Miss values (ss ++ [s]) row) (hs : s.1 < values.length) : meetsB row (s, values.getD s.1 0) = false := by
  have := m.at_ s.1 hs
  rw [last_app, if_pos rfl] at this
  simp only [missAt] at this
  obtain ⟨sc, sw⟩ := s
  cases sw <;> simp [meetsB] at this ⊢ <;> omega
/-- seats packed into sides: rows that miss just the side of their seat make a row that meets all -/
theorem packed_meets {ws qs values : List Int} {ss : List Sd} {rows : List (List Int)} {fs : List Nat} (hn : ss.Nodup) (hs : ∀ s ∈ ss, s.1 < values.length) (p : Packs ws (ss.map (room ws qs)) fs) (hm : ∀ k, k < ws.length → Miss values [ss.getD (fs.getD k 0) (0, true)] (rows.getD k [])) :
    ∀ s ∈ ss, missK ws rows (s, values.getD s.1 0) ≤ room ws qs s := by
  intro s hsm
  obtain ⟨j, hj, e⟩ := List.mem_iff_getElem.mp hsm
  have h1 := p.fit j (by rw [List.length_map]; exact hj)
  rw [getD_lt (by rw [List.length_map]; exact hj), List.getElem_map, e] at h1
  refine Int.le_trans (Int.le_of_eq ?_) h1
  rw [missK, sumIf, sumAt]
  refine sums_congr _ fun k hk => ?_
  have hk := List.mem_range.mp hk
  have hf : fs.getD k 0 < ss.length := by
    have := p.lt (fs.getD k 0) (by
      have : k < fs.length := by rw [p.len]; exact hk
      rw [getD_lt this]
      exact List.getElem_mem this)
    rwa [List.length_map] at this
  rw [miss_one (hm k hk) (hs s hsm), Bool.not_not, decide_eq_decide, getD_lt hf, ← e]
  constructor
  · intro q
    exact (List.getElem_inj hn).mp q.symm
  · intro q
    exact (List.getElem_inj hn).mpr q.symm
/-- rows that each miss a side, and a row that meets all sides: a packing -/
theorem meets_packs {ws qs values : List Int} {ss : List Sd} {rows : List (List Int)} (hw : ∀ w ∈ ws, 0 ≤ w) (hm : ∀ k, k < ws.length → ∃ s ∈ ss, meetsB (rows.getD k []) (s, values.getD s.1 0) = false)
    (h : ∀ s ∈ ss, missK ws rows (s, values.getD s.1 0) ≤ room ws qs s) : ∃ fs, Packs ws (ss.map (room ws qs)) fs := by
  let idx : Nat → Nat := fun k => ss.findIdx fun s => !meetsB (rows.getD k []) (s, values.getD s.1 0)
  have hi : ∀ k, k < ws.length → idx k < ss.length := fun k hk => by
    obtain ⟨s, hs, e⟩ := hm k hk
    exact List.findIdx_lt_length_of_exists ⟨s, hs, by rw [e]; rfl⟩
  have hg : ∀ k, k < ws.length → ((List.range ws.length).map idx).getD k 0 = idx k := fun k hk => by
    rw [getD_lt (by simpa using hk), List.getElem_map, List.getElem_range]
  refine ⟨(List.range ws.length).map idx, by simp, fun j hj => ?_, fun j hj => ?_⟩
  · obtain ⟨k, hk, rfl⟩ := List.mem_map.mp hj
    rw [List.length_map]
    exact hi k (List.mem_range.mp hk)
  · rw [List.length_map] at hj
    have h1 := h ss[j] (List.getElem_mem hj)
    rw [getD_lt (by rw [List.length_map]; exact hj), List.getElem_map]
    refine Int.le_trans ?_ h1
    rw [missK, sumIf, sumAt]
    refine sums_le _ (fun k hk q => ?_) fun k hk => wAt_nn hw k
    have hk := List.mem_range.mp hk
    rw [hg k hk] at q
    have q : idx k = j := of_decide_eq_true q
    have := List.findIdx_getElem (w := hi k hk)
    subst q
    exact this
end PD
set_option Elab.async false
set_option linter.all false
set_option maxRecDepth 100000
set_option maxHeartbeats 4000000
/-! Bounds, weights that miss them, and the words that laws share: _law_made, _law_meets, _law_rooms, _law_settle. -/
namespace PD
open PySem PySem.Spec PyProof.Rows L2
def bD (b : Bd) : D := .tup [.int (b.1.1 : Nat), .str (wayS b.1.2), .int b.2]
theorem way_most (b : Bool) : decide (wayS b = Str.ofString "most") = !b := by cases b <;> decide +kernel
def c_law_made : Con := fun ds κ R => ∃ ws qs : List Int, ds = [.tup [lN ws, lN qs]] ∧ GoodC ws qs ∧ R (cO ws qs) κ
def c_meets_bound : Con := fun ds κ R => ∃ (row : List Int) (b : Bd), ds = [tI row, bD b] ∧ b.1.1 < row.length ∧ R (.bl (meetsB row b)) κ
def c_meets : Con := fun ds κ R => ∃ (row : List Int) (bs : List Bd), ds = [tI row, .lst (bs.map bD)] ∧ (∀ b ∈ bs, b.1.1 < row.length) ∧ bs.length ≤ 1000 ∧ R (.bl (bs.all (meetsB row))) κ
def c_law_meets : Con := fun ds κ R => ∃ (row : List Int) (bs : List Bd), ds = [tI row, .lst (bs.map bD)] ∧ (∀ b ∈ bs, b.1.1 < row.length) ∧ R (.bl (bs.all (meetsB row))) κ
def c_weight_missing : Con := fun ds κ R => ∃ (ws qs : List Int) (rows : List (List Int)) (b : Bd), ds = [cO ws qs, .lst (rows.map tI), bD b] ∧ GoodC ws qs ∧ rows.length = ws.length ∧ (∀ r ∈ rows, b.1.1 < r.length) ∧ R (.int (missK ws rows b)) κ
def c_law_settle : Con := fun ds κ R => ∃ (ws qs : List Int) (rows : List (List Int)), ds = [.tup [lN ws, lN qs], .lst (rows.map tI)] ∧ GoodC ws qs ∧ rows.length = ws.length ∧ (∀ r ∈ rows, r.length = qs.length) ∧ R (tI (outs ws qs rows)) κ
abbrev N_law_made : List Str := ["parts"]
abbrev P_law_made : List Str := ["parts"]
@[reducible] def t_law_made : AS :=
  (aRet (aFrz (aMake "Council" c_Council_init (aCons (aData (aList (aOp dIx (aVar 0) (aC (.int 0))))) (aCons (aData (aList (aOp dIx (aVar 0) (aC (.int 1))))) aNil)))))
abbrev N_meets_bound : List Str := ["row", "bound", "column", "way", "value"]
abbrev P_meets_bound : List Str := ["row", "bound"]
@[reducible] def t_meets_bound : AS :=
  (aSeq (aAsg (aVar 1) (aGTup 3 (aGCons (aName 2) (aGCons (aName 3) (aGCons (aName 4) aGNil)))))
  (aSeq (aIfS (aTest (aOp dEq (aVar 3) (aC (.str (Str.ofString "least"))))) (aRet (aOp dGe (aOp dIx (aVar 0) (aVar 2)) (aVar 4))) aNext)
  (aRet (aOp dLe (aOp dIx (aVar 0) (aVar 2)) (aVar 4)))))
abbrev N_meets : List Str := ["row", "wish", "bound"]
abbrev P_meets : List Str := ["row", "wish"]
@[reducible] def t_meets : AS :=
  (aRet (aCB dAll (aCons (aData (aComp (aIt (aVar 1)) (aName 2) aYes (aCB c_meets_bound (aCons (aVar 0) (aCons (aVar 2) aNil))) [2])) aNil)))
abbrev N_law_meets : List Str := ["row", "wish", "column", "way", "value"]
abbrev P_law_meets : List Str := ["row", "wish"]
@[reducible] def t_law_meets : AS :=
  (aSeq (aFor (aIt (aVar 1)) (aGTup 3 (aGCons (aName 2) (aGCons (aName 3) (aGCons (aName 4) aGNil))))
  (aIfS (aOrT (aAndT (aTest (aOp dEq (aVar 3) (aC (.str (Str.ofString "least"))))) (aTest (aOp dLt (aOp dIx (aVar 0) (aVar 2)) (aVar 4)))) (aAndT (aTest (aOp dEq (aVar 3) (aC (.str (Str.ofString "most"))))) (aTest (aOp dGt (aOp dIx (aVar 0) (aVar 2)) (aVar 4))))) (aRet (aC (.bl false))) aNext))
  (aRet (aC (.bl true))))
abbrev N_weight_missing : List Str := ["council", "rows", "bound", "weight", "row"]
abbrev P_weight_missing : List Str := ["council", "rows", "bound"]
@[reducible] def t_weight_missing : AS :=
  (aRet (aCB dSum (aCons (aData (aComp (aZipM (aCons (aMeth "Council" "weights" c_Council_weights (aVar 0) aNil) (aCons (aVar 1) aNil))) (aGTup 2 (aGCons (aName 3) (aGCons (aName 4) aGNil))) (aNotT (aTest (aCB c_meets (aCons (aVar 4) (aCons (aData (aLst (aCons (aVar 2) aNil))) aNil))))) (aVar 3) [3, 4])) aNil)))
abbrev N_law_settle : List Str := ["parts", "rows", "weights", "quotas", "found", "column", "reached", "entry", "value", "weight", "k"]
abbrev P_law_settle : List Str := ["parts", "rows"]
@[reducible] def t_law_settle : AS :=
  (aSeq (aAsg (aVar 0) (aGTup 2 (aGCons (aName 2) (aGCons (aName 3) aGNil))))
  (aSeq (aAsg (aCell (aLst aNil)) (aName 4))
  (aSeq (aFor (aRng1 (aCons (aCB dLen (aCons (aVar 3) aNil)) aNil)) (aName 5)
  (aSeq (aAsg (aTup (aCons (aC (.int 0)) (aCons (aC .non) aNil))) (aGTup 2 (aGCons (aName 6) (aGCons (aName 7) aGNil))))
  (aSeq (aFor (aIt (aCB dSortD (aCons (aData (aComp (aRng1 (aCons (aCB dLen (aCons (aVar 2) aNil)) aNil)) (aName 10) aYes (aTup (aCons (aOp dIx (aOp dIx (aVar 1) (aVar 10)) (aVar 5)) (aCons (aOp dIx (aVar 2) (aVar 10)) aNil))) [10])) aNil))) (aGTup 2 (aGCons (aName 8) (aGCons (aName 9) aGNil)))
  (aSeq (aIfS (aTest (aOp dLt (aVar 6) (aOp dIx (aVar 3) (aVar 5)))) (aAsg (aVar 8) (aName 7)) aNext)
  (aAug 6 iAdd (aVar 9))))
  (aDrop (aApp (aVar 4) (aVar 7))))))
  (aFrzV 4 (aRet (aCB dTuple (aCons (aVar 4) aNil)))))))
theorem l_law_made : ∀ ds κ R, c_law_made ds κ R → ds.length = P_law_made.length := by
  rintro ds κ R ⟨_, _, rfl, _⟩
  rfl
theorem l_meets_bound : ∀ ds κ R, c_meets_bound ds κ R → ds.length = P_meets_bound.length := by
  rintro ds κ R ⟨_, _, rfl, _⟩
  rfl
theorem l_meets : ∀ ds κ R, c_meets ds κ R → ds.length = P_meets.length := by
  rintro ds κ R ⟨_, _, rfl, _⟩
  rfl
theorem l_law_meets : ∀ ds κ R, c_law_meets ds κ R → ds.length = P_law_meets.length := by
  rintro ds κ R ⟨_, _, rfl, _⟩
  rfl
theorem l_weight_missing : ∀ ds κ R, c_weight_missing ds κ R → ds.length = P_weight_missing.length := by
  rintro ds κ R ⟨_, _, _, _, rfl, _⟩
  rfl
theorem l_law_settle : ∀ ds κ R, c_law_settle ds κ R → ds.length = P_law_settle.length := by
  rintro ds κ R ⟨_, _, _, rfl, _⟩
  rfl
theorem blws_ints' (n : Nat) : ∀ xs : List Int, blws n (xs.map D.int) = true := fun xs => blws_map n (fun _ => rfl) xs
theorem blw_cO (n : Nat) (ws qs : List Int) : blw n (cO ws qs) = true := by simp [cO, blw, blwf, lN, blws_ints']
theorem blw_rows (n : Nat) (rows : List (List Int)) : blw n (.lst (rows.map tI)) = true := by
  rw [blw]
  exact blws_map n (fun r => by rw [tI, blw]; exact blws_ints' n r) rows
theorem blw_tI (n : Nat) (r : List Int) : blw n (tI r) = true := by rw [tI, blw]; exact blws_ints' n r
theorem b_law_made : Body N_law_made t_law_made c_law_made := by
  rintro ds κ R co ⟨ws, qs, rfl, g, h⟩
  simp [-Bool.exists_bool, start, lN]
  refine ⟨κ.length, ws, qs, rfl, own_get rfl, g, ?_⟩
  simp [own_get rfl, own_set rfl]
  exact fin_app co (blw_cO _ _ _) h
theorem b_meets_bound : Body N_meets_bound t_meets_bound c_meets_bound := by
  rintro ds κ R co ⟨row, b, rfl, hb, h⟩
  have e := atI_map (f := D.int) hb
  simp [-Bool.exists_bool, start, bD, way_least, List.replicate]
  cases hw : b.1.2 with
  | true =>
    simp [-Bool.exists_bool, e]
    rw [meetsB, hw, if_pos rfl, getD_lt hb] at h
    exact .inl h
  | false =>
    simp [-Bool.exists_bool, e]
    rw [meetsB, hw, if_neg (by decide), getD_lt hb] at h
    exact .inl h
theorem b_meets : Body N_meets t_meets c_meets := by
  rintro ds κ R co ⟨row, bs, rfl, hb, hn, h⟩
  simp [-Bool.exists_bool, start, List.replicate]
  refine comp_pure (b := fun b => D.bl (meetsB row b)) (by omega) (fun b hm Z hz => ?_) ?_
  · simp [-Bool.exists_bool]
    exact ⟨row, b, rfl, hb b hm, hz⟩
  · have := e_all (bs := bs.map (meetsB row)) (κ := κ) (R := Fin κ R) (by
      rw [List.all_map]
      exact .inl h)
    rw [List.map_map] at this
    exact this
theorem b_law_meets : Body N_law_meets t_law_meets c_law_meets := by
  rintro ds κ R co ⟨row, bs, rfl, hb, h⟩
  simp [-Bool.exists_bool, start, List.replicate]
  refine loop_map (fun todo ρ κ' => κ' = κ ∧ (bs.all (meetsB row) = todo.all (meetsB row)) ∧ (∀ b ∈ todo, b.1.1 < row.length) ∧ ∃ x y z, ρ = [some (tI row), some (.lst (bs.map bD)), x, y, z]) ⟨rfl, rfl, hb, _, _, _, rfl⟩ ?_ ?_
  · rintro b todo ρ κ' ⟨rfl, e, hb, x, y, z, rfl⟩ Z hZ
    have hbb := hb b (by simp)
    have ea := atI_map (f := D.int) hbb
    simp [-Bool.exists_bool, bD, way_least, way_most]
    rw [List.all_cons] at e
    have go : meetsB row b = true → ∀ x y z, Z [some (tI row), some (.lst (bs.map bD)), x, y, z] κ' := fun q x y z => hZ _ _ ⟨rfl, by rw [e, q, Bool.true_and], fun b hm => hb b (by simp [hm]), _, _, _, rfl⟩
    have stop : meetsB row b = false → Fin κ' R (.bl false) κ' := fun q => .inl (by
      rw [e, q, Bool.false_and] at h
      exact h)
    cases hw : b.1.2 with
    | true =>
      simp [-Bool.exists_bool, ea]
      rw [meetsB, hw, if_pos rfl, getD_lt hbb] at go stop
      split
      · exact stop (by simp; omega)
      · exact go (by simp; omega) _ _ _
    | false =>
      simp [-Bool.exists_bool, ea]
      rw [meetsB, hw, if_neg (by decide), getD_lt hbb] at go stop
      split
      · exact stop (by simp; omega)
      · exact go (by simp; omega) _ _ _
  · rintro ρ κ' ⟨rfl, e, hb, x, y, z, rfl⟩
    rw [e] at h
    exact .inl h
theorem missK_zip {ws : List Int} {rows : List (List Int)} (hl : rows.length = ws.length) (b : Bd) : (((ws.zip rows).filter fun p => !meetsB p.2 b).map (·.1)).sum = missK ws rows b := by
  rw [zip_range 0 [] ws rows hl.symm, List.filter_map, List.map_map, missK, sumIf, hl]
  rfl
theorem b_weight_missing : Body N_weight_missing t_weight_missing c_weight_missing := by
  rintro ds κ R co ⟨ws, qs, rows, b, rfl, g, hl, hr, h⟩
  simp [-Bool.exists_bool, start, cO, List.replicate, -List.lookup_eq_none_iff, lk3]
  refine ⟨ws, qs, rfl, ?_⟩
  refine zipMK_ll.mpr ?_
  rw [zipD_map]
  have hz : (ws.zip rows).length = ws.length := by rw [List.length_zip, hl, Nat.min_self]
  have hw := g.w7
  refine comp_filt (p := fun p => !meetsB p.2 b) (b := fun p => D.int p.1) (by omega) (fun p hp Z Y h1 h2 => ?_) ?_
  · simp [-Bool.exists_bool]
    refine ⟨p.2, [b], rfl, fun b' hb' => ?_, by simp, ?_⟩
    · rw [List.mem_singleton.mp hb']
      exact hr _ (List.of_mem_zip (a := p.1) (b := p.2) hp).2
    · simp [-Bool.exists_bool]
      cases hm : meetsB p.2 b with
      | true => exact h2 (by rw [hm]; rfl)
      | false => exact h1 (by rw [hm]; rfl)
  · have := e_sum (ns := ((ws.zip rows).filter fun p => !meetsB p.2 b).map (·.1)) (κ := κ) (R := Fin κ R) (by
      rw [missK_zip hl]
      exact .inl h)
    rw [List.map_map] at this
    exact this
theorem use_sortP {κ : Cs} {R : D → Cs → Prop} {ps : List (Int × Int)} (hn : ps.length ≤ 1000) (h : R (.lst ((ZC.sortP ps).map eP)) κ) : dSortD [.lst (ps.map eP)] κ R := by
  obtain ⟨h1, h2, h3⟩ := pairs_ok ps
  refine ⟨ps.map eP, rfl, by rw [List.length_map]; omega, plains_pairs ps, h1, h2, h3, ?_⟩
  rw [sortBy_pairs]
  exact h
theorem b_law_settle : Body N_law_settle t_law_settle c_law_settle := by
  rintro ds κ R co ⟨ws, qs, rows, rfl, g, hl, hr, h⟩
  have hw7 := g.w7
  have hq6 := g.q6
  simp [-Bool.exists_bool, start, List.replicate]
  refine ⟨by omega, ?_⟩
  refine loop_rng (fun c ρ κ' => κ' = κ ++ [some (.lst ((List.range c).map fun c => D.int (pick ws (qs.getD c 0) (colOf rows c))))] ∧ ∃ x1 x2 x3 x4 x5, ρ = [some (.tup [lN ws, lN qs]), some (.lst (rows.map tI)), some (lN ws), some (lN qs), some (.cell κ.length), x1, x2, x3, x4, x5, none]) ⟨rfl, _, _, _, _, _, rfl⟩ ?_ ?_
  · rintro c ρ κ' hc ⟨rfl, x1, x2, x3, x4, x5, rfl⟩ Z hZ
    have hlc : (colOf rows c).length = ws.length := by rw [colOf, List.length_map, hl]
    have hq := g.q (qs.getD c 0) (by rw [getD_lt hc]; exact List.getElem_mem hc)
    have hp := pick_some hlc (show 0 < qs.getD c 0 by omega) hq.2
    have eq1 := atI_map (f := D.int) hc
    simp [-Bool.exists_bool, -List.getD_eq_getElem?_getD]
    refine ⟨by omega, ?_⟩
    refine comp_pure (xs := List.range ws.length) (b := fun k => eP ((colOf rows c).getD k 0, ws.getD k 0)) (by simp; omega) (fun k hk Y hY => ?_) ?_
    · have hk := List.mem_range.mp hk
      have hk1 : k < rows.length := by omega
      have hk2 : c < (rows[k]).length := by rw [hr _ (List.getElem_mem hk1)]; exact hc
      have e1 : (colOf rows c).getD k 0 = (rows[k])[c] := by
        rw [getD_lt (by rw [colOf, List.length_map]; exact hk1)]
        simp [colOf, hk2]
      rw [e1, getD_lt hk] at hY
      simp [-Bool.exists_bool, -List.getD_eq_getElem?_getD]
      refine ⟨_, atI_map hk1, ?_⟩
      simp [-Bool.exists_bool, -List.getD_eq_getElem?_getD]
      refine ⟨_, atI_map hk2, _, atI_map hk, hY⟩
    · have ez := zip_range 0 0 (colOf rows c) ws hlc
      rw [show ((List.range ws.length).map fun k => eP ((colOf rows c).getD k 0, ws.getD k 0)) = ((colOf rows c).zip ws).map eP by rw [ez, List.map_map]; rfl]
      refine use_sortP (by rw [List.length_zip]; omega) ?_
      have hnn : ∀ p ∈ ZC.sortP ((colOf rows c).zip ws), 0 ≤ p.2 := fun p hp => zip_nonneg (fun w h => (g.w1 w h).1) p ((perm_sortP _).mem_iff.mp hp)
      simp [-Bool.exists_bool, -List.getD_eq_getElem?_getD]
      refine loop_map (fun ps ρ κ' => κ' = κ ++ [some (.lst ((List.range c).map fun c => D.int (pick ws (qs.getD c 0) (colOf rows c))))] ∧ (∀ p ∈ ps, 0 ≤ p.2) ∧ ∃ (r : Int) (e x4 x5 : D), True ∧ ∃ x4 x5, ((r < qs.getD c 0 ∧ reach (qs.getD c 0) r ps = some (pick ws (qs.getD c 0) (colOf rows c))) ∨ (qs.getD c 0 ≤ r ∧ e = .int (pick ws (qs.getD c 0) (colOf rows c)))) ∧
        ρ = [some (.tup [lN ws, lN qs]), some (.lst (rows.map tI)), some (lN ws), some (lN qs), some (.cell κ.length), some (.int (c : Nat)), some (.int r), some e, x4, x5, none]) ⟨rfl, hnn, 0, .non, .non, .non, trivial, _, _, .inl ⟨by omega, hp⟩, rfl⟩ ?_ ?_
      · rintro p ps ρ κ' ⟨rfl, hnn, r, e, _, _, _, y4, y5, hI, rfl⟩ Y hY
        have hp2 := hnn p (by simp)
        simp [-Bool.exists_bool, eP, -List.getD_eq_getElem?_getD]
        refine ⟨_, eq1, ?_⟩
        simp [-Bool.exists_bool, -List.getD_eq_getElem?_getD]
        rw [← getD_lt hc 0]
        have fin : ∀ (e : D), (r + p.2 < qs.getD c 0 ∧ reach (qs.getD c 0) (r + p.2) ps = some (pick ws (qs.getD c 0) (colOf rows c)) ∨ qs.getD c 0 ≤ r + p.2 ∧ e = .int (pick ws (qs.getD c 0) (colOf rows c))) →
            Y [some (.tup [lN ws, lN qs]), some (.lst (rows.map tI)), some (lN ws), some (lN qs), some (.cell κ.length), some (.int (c : Nat)), some (.int (r + p.2)), some e, some (.int p.1), some (.int p.2), none] (κ ++ [some (.lst ((List.range c).map fun c => D.int (pick ws (qs.getD c 0) (colOf rows c))))]) := fun e q =>
          hY _ _ ⟨rfl, fun q hq => hnn q (by simp [hq]), r + p.2, e, .non, .non, trivial, _, _, q, rfl⟩
        rcases hI with ⟨hI1, hI2⟩ | ⟨hI1, hI2⟩
        · rw [if_pos hI1]
          unfold reach at hI2
          by_cases q : qs.getD c 0 ≤ r + p.2
          · rw [if_pos q] at hI2
            exact fin _ (.inr ⟨q, by rw [Option.some.inj hI2]⟩)
          · rw [if_neg q] at hI2
            exact fin _ (.inl ⟨by omega, hI2⟩)
        · rw [if_neg (by omega)]
          exact fin _ (.inr ⟨by omega, hI2⟩)
      · rintro ρ κ' ⟨rfl, hnn, r, e, _, _, _, y4, y5, hI, rfl⟩
        have he : e = .int (pick ws (qs.getD c 0) (colOf rows c)) := by
          rcases hI with ⟨_, hI2⟩ | ⟨_, hI2⟩
          · cases hI2
          · exact hI2
        subst he
        simp [-Bool.exists_bool, own_get rfl, own_set rfl, -List.getD_eq_getElem?_getD]
        refine ⟨by omega, hZ _ _ ⟨?_, _, _, _, _, _, rfl⟩⟩
        rw [List.range_succ, List.map_append]
        rfl
  · rintro ρ κ' ⟨rfl, x1, x2, x3, x4, x5, rfl⟩
    simp [-Bool.exists_bool, own_get rfl, own_set rfl, -List.getD_eq_getElem?_getD]
    refine fin_app co ?_ ?_
    · simp only [blw]
      exact blws_map _ (fun _ => rfl) _
    · rw [tI, outs, List.map_map] at h
      exact h
end PD
set_option Elab.async false
set_option linter.all false
set_option maxRecDepth 100000
set_option maxHeartbeats 4000000
/-! Drawn sides, and rows that miss them. -/
namespace PD
open PySem PySem.Spec PyProof.Rows L2
def c_law_missing : Con := fun ds κ R => ∃ (s : Sd) (v : Int), ds = [sideD s, .int v] ∧ R (.int (if s.2 = true then v - 1 else v + 1)) κ
def c_law_row_missing : Con := fun ds κ R => ∃ (k : Nat) (values : List Int) (ss : List Sd) (far : Int), ds = [.cell k, lN values, .lst (ss.map sideD), .int far] ∧ Bg k κ κ ∧ 0 < far ∧ far ≤ 1000000000 ∧ (∀ s ∈ ss, s.1 < values.length) ∧ values.length ≤ 6 ∧
  ∀ row κ', Bg k κ κ' → Miss values ss row → R (tI row) κ'
def c_law_sides : Con := fun ds κ R => ∃ (k width : Nat) (most : Int), ds = [.cell k, .int (width : Nat), .int most] ∧ Bg k κ κ ∧ 1 ≤ width ∧ width ≤ 6 ∧ 0 ≤ most ∧ most ≤ 12 ∧
  ∀ (ss : List Sd) κ', Bg k κ κ' → ss.Nodup → (∀ s ∈ ss, s.1 < width) → ss.length ≤ 12 → R (.lst (ss.map sideD)) κ'
abbrev N_law_missing : List Str := ["bound", "value"]
abbrev P_law_missing : List Str := ["bound", "value"]
@[reducible] def t_law_missing : AS :=
  (aRet (aIf (aTest (aOp dEq (aOp dIx (aVar 0) (aC (.int 1))) (aC (.str (Str.ofString "least"))))) (aOp dSub (aVar 1) (aC (.int 1))) (aOp dAdd (aVar 1) (aC (.int 1)))))
abbrev N_law_row_missing : List Str := ["bag", "values", "some", "far", "row", "side"]
abbrev P_law_row_missing : List Str := ["bag", "values", "some", "far"]
@[reducible] def t_law_row_missing : AS :=
  (aSeq (aAsg (aCell (aList (aVar 1))) (aName 4))
  (aSeq (aFor (aIt (aVar 2)) (aName 5)
  (aAsg (aOp dAdd (aCB c_law_missing (aCons (aVar 5) (aCons (aOp dIx (aVar 1) (aOp dIx (aVar 5) (aC (.int 0)))) aNil))) (aOp dMul (aOp dIx (aData (aLst (aCons (aC (.int 0)) (aCons (aCB c_law_take (aCons (aVar 0) (aCons (aVar 3) aNil))) aNil)))) (aCB c_law_take (aCons (aVar 0) (aCons (aC (.int 2)) aNil)))) (aOp dIx (aData (aLst (aCons (aC (.int 1)) (aCons (aUn dNeg (aC (.int 1))) aNil)))) (aCB dInt (aCons (aOp dEq (aOp dIx (aVar 5) (aC (.int 1))) (aC (.str (Str.ofString "least")))) aNil))))) (aSub (aVar 4) (aOp dIx (aVar 5) (aC (.int 0))))))
  (aFrzV 4 (aRet (aCB dTuple (aCons (aVar 4) aNil))))))
abbrev N_law_sides : List Str := ["bag", "width", "most", "found", "k", "side"]
abbrev P_law_sides : List Str := ["bag", "width", "most"]
@[reducible] def t_law_sides : AS :=
  (aSeq (aAsg (aCell (aLst aNil)) (aName 3))
  (aSeq (aFor (aRng1 (aCons (aCB c_law_take (aCons (aVar 0) (aCons (aOp dAdd (aVar 2) (aC (.int 1))) aNil))) aNil)) (aName 4)
  (aSeq (aAsg (aTup (aCons (aCB c_law_take (aCons (aVar 0) (aCons (aVar 1) aNil))) (aCons (aOp dIx (aData (aLst (aCons (aC (.str (Str.ofString "least"))) (aCons (aC (.str (Str.ofString "most"))) aNil)))) (aCB c_law_take (aCons (aVar 0) (aCons (aC (.int 2)) aNil)))) aNil))) (aName 5))
  (aIfS (aTest (aOp (dInL not) (aVar 5) (aVar 3))) (aDrop (aIns (aVar 3) (aCB c_law_take (aCons (aVar 0) (aCons (aOp dAdd (aCB dLen (aCons (aVar 3) aNil)) (aC (.int 1))) aNil))) (aVar 5))) aNext)))
  (aFrzV 3 (aRet (aVar 3)))))
theorem l_law_missing : ∀ ds κ R, c_law_missing ds κ R → ds.length = P_law_missing.length := by
  rintro ds κ R ⟨_, _, rfl, _⟩
  rfl
theorem l_law_row_missing : ∀ ds κ R, c_law_row_missing ds κ R → ds.length = P_law_row_missing.length := by
  rintro ds κ R ⟨_, _, _, _, rfl, _⟩
  rfl
theorem l_law_sides : ∀ ds κ R, c_law_sides ds κ R → ds.length = P_law_sides.length := by
  rintro ds κ R ⟨_, _, _, rfl, _⟩
  rfl
theorem b_law_missing : Body N_law_missing t_law_missing c_law_missing := by
  rintro ds κ R co ⟨s, v, rfl, h⟩
  simp [-Bool.exists_bool, start, sideD, way_least]
  cases hw : s.2 with
  | true =>
    rw [hw, if_pos rfl] at h
    simp [-Bool.exists_bool]
    exact .inl h
  | false =>
    rw [hw, if_neg (by decide)] at h
    simp [-Bool.exists_bool]
    exact .inl h
theorem blw_sideD (n : Nat) (s : Sd) : blw n (sideD s) = true := rfl
theorem b_law_row_missing : Body N_law_row_missing t_law_row_missing c_law_row_missing := by
  rintro ds κ R co ⟨k, values, ss, far, rfl, b, hf0, hf1, hs, hv, h⟩
  simp [-Bool.exists_bool, start, List.replicate]
  refine loop_map (fun todo ρ κ' => ∃ κ4 row done x, κ' = κ4 ++ [some (.lst (row.map D.int))] ∧ Bg k κ κ4 ∧ Miss values done row ∧ done ++ todo = ss ∧
    ρ = [some (.cell k), some (lN values), some (.lst (ss.map sideD)), some (.int far), some (.cell κ.length), x]) ⟨κ, values, [], _, rfl, b, miss_nil values, rfl, rfl⟩ ?_ ?_
  · rintro s todo ρ κ' ⟨κ4, row, done, x, rfl, b4, hm, hd, rfl⟩ Z hZ
    have hsm : s.1 < values.length := hs s (by rw [← hd]; simp)
    have ev := atI_map (f := D.int) hsm
    have e0 : itAt (κ4 ++ [some (Ce.lst (row.map D.int))]) (sideD s) 0 = some (.int (s.1 : Nat)) := rfl
    have e1 : itAt (κ4 ++ [some (Ce.lst (row.map D.int))]) (sideD s) 1 = some (.str (wayS s.2)) := rfl
    simp [-Bool.exists_bool, e0, ev]
    refine ⟨s, _, rfl, ?_⟩
    simp [-Bool.exists_bool]
    refine use_take_app b4 (by omega) (by omega) fun v1 κ5 b5 g1 g2 => ?_
    refine use_take_app b5 (by omega) (by omega) fun v2 κ6 b6 g3 g4 => ?_
    have e1 : itAt (κ6 ++ [some (Ce.lst (row.map D.int))]) (sideD s) 1 = some (.str (wayS s.2)) := rfl
    have e0 : itAt (κ6 ++ [some (Ce.lst (row.map D.int))]) (sideD s) 0 = some (.int (s.1 : Nat)) := rfl
    have fin : ∀ x : Int, (if s.2 = true then x < values.getD s.1 0 else values.getD s.1 0 < x) → Z [some (.cell k), some (lN values), some (.lst (ss.map sideD)), some (.int far), some (.cell κ.length), some (sideD s)] (κ6 ++ [some (.lst ((row.set s.1 x).map D.int))]) := fun x hx =>
      hZ _ _ ⟨κ6, row.set s.1 x, done ++ [s], _, rfl, b6, miss_step hm hsm hx, by rw [List.append_assoc]; exact hd, rfl⟩
    rw [getD_lt hsm] at fin
    have hrl : s.1 < row.length := by rw [hm.len]; exact hsm
    rcases (by omega : v2 = 0 ∨ v2 = 1) with rfl | rfl <;> cases hw : s.2 <;>
    · simp [-Bool.exists_bool, dInt, e0, e1, way_least, hw, own_get b6.len, own_set b6.len]
      refine ⟨_, ixN_lt (by simpa using hrl), ?_⟩
      rw [← List.map_set]
      exact fin _ (by simp [hw]; omega)
  · rintro ρ κ' ⟨κ4, row, done, x, rfl, b4, hm, hd, rfl⟩
    simp [-Bool.exists_bool, own_get b4.len, own_set b4.len]
    rw [List.append_nil] at hd
    subst hd
    exact fin_bg b4 co (blw_tI _ row) (h row κ4 b4 hm)
end PD
set_option Elab.async false
set_option linter.all false
set_option maxRecDepth 100000
set_option maxHeartbeats 4000000
/-! Drawn sides; the law's look at a made row. -/
namespace PD
open PySem PySem.Spec PyProof.Rows L2
@[simp] theorem e_ins {t s u : AE} {ρ : Rho} {κ : Cs} {R : D → Cs → Prop} : aIns t s u ρ κ R ↔ t ρ κ fun d κ1 => match d with
  | .cell k => (∃ ds, κ1[k]? = some (some (.lst ds))) ∧ s ρ κ1 fun x κ2 => u ρ κ2 fun e κ3 => ∃ ds j, x = .int j ∧ 0 ≤ j ∧ j < 1000000000 ∧ κ3[k]? = some (some (.lst ds)) ∧ ds.length < 16777216 ∧ R .non (κ3.set k (some (.lst (ds.take j.toNat ++ [e] ++ ds.drop j.toNat))))
  | _ => False := .rfl
theorem way_eqv (a b : Bool) : PyData.eqv (.str (wayS a)) (.str (wayS b)) = decide (a = b) := by cases a <;> cases b <;> decide +kernel
theorem strOk_way (b : Bool) : PyData.strOk (wayS b) = true := by cases b <;> decide +kernel
theorem eqD_side (s t : Sd) : eqD (sideD s) (sideD t) = decide (s = t) := by
  have e : eqD (sideD s) (sideD t) = (PyData.eqv (.int (s.1 : Nat)) (.int (t.1 : Nat)) && (PyData.eqv (.str (wayS s.2)) (.str (wayS t.2)) && true)) := by
    simp [eqD, sideD, pyOf, pysOf, PyData.eqv, PyData.eqvAll]
  rw [e, way_eqv, Bool.and_true]
  obtain ⟨a, b⟩ := s
  obtain ⟨c, d⟩ := t
  have e2 : PyData.eqv (.int (a : Nat)) (.int (c : Nat)) = decide ((a : Int) = (c : Int)) := by
    simp only [PyData.eqv]
    rw [Bool.eq_iff_iff, beq_iff_eq, decide_eq_true_eq]
  show (PyData.eqv (.int (a : Nat)) (.int (c : Nat)) && decide (b = d)) = decide ((a, b) = (c, d))
  rw [e2, Bool.eq_iff_iff]
  simp only [Bool.and_eq_true, decide_eq_true_eq, Prod.mk.injEq]
  constructor
  · rintro ⟨h1, h2⟩
    exact ⟨by omega, h2⟩
  · rintro ⟨h1, h2⟩
    exact ⟨by omega, h2⟩
theorem plain_side (s : Sd) : plain (sideD s) = true := by simp [sideD, plain, plains, strOk_way]
theorem dep_side (s : Sd) : dep (sideD s) ≤ 1 := by simp [sideD, dep, deps]
theorem plains_map {α : Type} {f : α → D} (h : ∀ x, plain (f x) = true) : ∀ xs : List α, plains (xs.map f) = true
  | [] => rfl
  | x :: xs => by rw [List.map_cons, plains, h x, plains_map h xs]; rfl
theorem use_inSides {κ : Cs} {R : D → Cs → Prop} {f : Bool → Bool} {k : Nat} {s : Sd} {ss : List Sd} (h : κ[k]? = some (some (.lst (ss.map sideD)))) (hR : R (.bl (f (decide (s ∈ ss)))) κ) : dInL f (sideD s) (.cell k) κ R := by
  have l : lstOf κ (.cell k) = some (ss.map sideD) := by simp only [lstOf, h]
  refine ⟨ss.map sideD, by simp only [view, l], ⟨plain_side s, Nat.le_trans (dep_side s) (by decide)⟩, ⟨?_, ?_⟩, ?_⟩
  · rw [plain]
    exact plains_map plain_side ss
  · rw [dep]
    have := deps_map (n := 1) dep_side ss
    omega
  · have e : ((ss.map sideD).any fun z => eqD z (view κ (sideD s))) = decide (s ∈ ss) := by
      rw [show view κ (sideD s) = sideD s from rfl, List.any_map, Bool.eq_iff_iff, List.any_eq_true, decide_eq_true_eq]
      constructor
      · rintro ⟨t, ht, e⟩
        have e' : eqD (sideD t) (sideD s) = true := e
        rw [eqD_side] at e'
        rw [← of_decide_eq_true e']
        exact ht
      · intro hs
        exact ⟨s, hs, by show eqD (sideD s) (sideD s) = true; rw [eqD_side]; exact decide_eq_true rfl⟩
    rw [e]
    exact hR
theorem b_law_sides : Body N_law_sides t_law_sides c_law_sides := by
  rintro ds κ R co ⟨k, width, most, rfl, b, hw1, hw2, hm0, hm1, h⟩
  simp [-Bool.exists_bool, start, List.replicate]
  refine use_take_app b (by omega) (by omega) fun v1 κ1 b1 g1 g1' => ?_
  refine ⟨by omega, ?_⟩
  refine loop_rng (fun i ρ κ' => ∃ κ2 ss x y, κ' = κ2 ++ [some (.lst (ss.map sideD))] ∧ Bg k κ κ2 ∧ ss.Nodup ∧ (∀ s ∈ ss, s.1 < width) ∧ ss.length ≤ i ∧
    ρ = [some (.cell k), some (.int (width : Nat)), some (.int most), some (.cell κ.length), x, y]) ⟨κ1, [], none, none, rfl, b1, List.nodup_nil, (fun _ h => nomatch h), Nat.le_refl _, rfl⟩ ?_ ?_
  · rintro i _ _ hi ⟨κ2, ss, x, y, rfl, b2, hn, hlt, hl, rfl⟩ Z hZ
    simp [-Bool.exists_bool]
    refine use_take_app b2 (by omega) (by omega) fun v2 κ3 b3 g2 g3 => ?_
    refine use_take_app b3 (by omega) (by omega) fun v3 κ4 b4 g4 g5 => ?_
    obtain ⟨c, rfl⟩ : ∃ c : Nat, v2 = (c : Nat) := ⟨v2.toNat, by omega⟩
    have key : ∀ s : Sd, s.1 = c → dInL not (sideD s) (.cell κ.length) (κ4 ++ [some (.lst (ss.map sideD))]) (fun d κ' => ∃ b, d = .bl b ∧ if b = true then
        (∃ ds, κ'[κ.length]? = some (some (Ce.lst ds))) ∧ dLen [.cell κ.length] κ' fun d κ1 => dAdd d (.int 1) κ1 fun d κ1 => c_law_take [.cell k, d] κ1 fun x κ2 => ∃ ds j, x = .int j ∧ 0 ≤ j ∧ j < 1000000000 ∧ κ2[κ.length]? = some (some (.lst ds)) ∧ ds.length < 16777216 ∧
          Z [some (.cell k), some (.int (width : Nat)), some (.int most), some (.cell κ.length), some (.int (i : Nat)), some (sideD s)] (κ2.set κ.length (some (.lst (ds.take j.toNat ++ sideD s :: ds.drop j.toNat))))
        else Z [some (.cell k), some (.int (width : Nat)), some (.int most), some (.cell κ.length), some (.int (i : Nat)), some (sideD s)] κ') := by
      intro s hs
      refine use_inSides (own_get b4.len) ?_
      refine ⟨_, rfl, ?_⟩
      by_cases q : s ∈ ss
      · rw [if_neg (by simp [q])]
        exact hZ _ _ ⟨κ4, ss, _, _, rfl, b4, hn, hlt, by omega, rfl⟩
      · rw [if_pos (by simp [q])]
        refine ⟨⟨_, own_get b4.len⟩, ?_⟩
        rw [e_lenC (own_get b4.len)]
        simp [-Bool.exists_bool]
        refine use_take_app b4 (by omega) (by omega) fun v4 κ5 b5 g6 g7 => ?_
        refine ⟨ss.map sideD, v4, rfl, g6, by omega, own_get b5.len, by simp; omega, ?_⟩
        rw [own_set b5.len]
        have e : (ss.map sideD).take v4.toNat ++ sideD s :: (ss.map sideD).drop v4.toNat = (ss.take v4.toNat ++ s :: ss.drop v4.toNat).map sideD := by simp
        have hp : (ss.take v4.toNat ++ s :: ss.drop v4.toNat).Perm (s :: ss) := by
          have := List.perm_middle (a := s) (l₁ := ss.take v4.toNat) (l₂ := ss.drop v4.toNat)
          rwa [List.take_append_drop] at this
        have hZ' := hZ [some (.cell k), some (.int (width : Nat)), some (.int most), some (.cell κ.length), some (.int (i : Nat)), some (sideD s)] (κ5 ++ [some (.lst ((ss.take v4.toNat ++ s :: ss.drop v4.toNat).map sideD))])
          ⟨κ5, _, _, _, rfl, b5, hp.nodup_iff.mpr (List.nodup_cons.mpr ⟨q, hn⟩), fun t ht => by
            rcases List.mem_cons.mp (hp.mem_iff.mp ht) with rfl | ht
            · omega
            · exact hlt t ht, by rw [hp.length_eq, List.length_cons]; omega, rfl⟩
        rw [← e] at hZ'
        exact hZ'
    rcases (by omega : v3 = 0 ∨ v3 = 1) with rfl | rfl
    · simp [-Bool.exists_bool]
      exact key (c, true) rfl
    · simp [-Bool.exists_bool]
      exact key (c, false) rfl
  · rintro _ _ ⟨κ2, ss, x, y, rfl, b2, hn, hlt, hl, rfl⟩
    simp [-Bool.exists_bool, own_get b2.len, own_set b2.len]
    refine fin_bg b2 co ?_ (h ss κ2 b2 hn hlt (by omega))
    rw [blw]
    exact blws_map _ (blw_sideD _) ss
end PD
set_option Elab.async false
set_option linter.all false
set_option maxRecDepth 100000
set_option maxHeartbeats 4000000
/-! Drawn rows; a side in a list of sides. -/
namespace PD
open PySem PySem.Spec PyProof.Rows L2
def c_law_row : Con := fun ds κ R => ∃ (k width : Nat) (top : Int), ds = [.cell k, .int (width : Nat), .int top] ∧ Bg k κ κ ∧ width ≤ 6 ∧ 0 ≤ top ∧ top ≤ 1000000 ∧ ∀ row κ', Bg k κ κ' → row.length = width → R (tI row) κ'
abbrev N_law_row : List Str := ["bag", "width", "top", "column"]
abbrev P_law_row : List Str := ["bag", "width", "top"]
@[reducible] def t_law_row : AS :=
  (aRet (aCB dTuple (aCons (aData (aComp (aRng1 (aCons (aVar 1) aNil)) (aName 3) aYes (aCB c_law_take (aCons (aVar 0) (aCons (aOp dAdd (aVar 2) (aC (.int 1))) aNil))) [3])) aNil)))
theorem l_law_row : ∀ ds κ R, c_law_row ds κ R → ds.length = P_law_row.length := by
  rintro ds κ R ⟨_, _, _, rfl, _⟩
  rfl
theorem b_law_row : Body N_law_row t_law_row c_law_row := by
  rintro ds κ R co ⟨k, width, top, rfl, b, hw, h0, h1, h⟩
  simp [-Bool.exists_bool, start, List.replicate]
  refine ⟨by omega, ?_⟩
  refine comp_rng (b := D.int) (fun _ _ => True) (fun κ' => Bg k κ κ') b (by omega) (fun j κ1 hj b1 Z hZ => ?_) fun row κ1 hl _ b1 => ?_
  · simp [-Bool.exists_bool]
    exact use_take b1 (by omega) (by omega) fun v κ2 b2 _ _ => hZ _ _ trivial b2
  · exact .inl (h row κ1 b1 (by omega))
@[simp] theorem isNon_lX {b : List Nat} : isNon (lX b) = false := rfl
@[simp] theorem e_pick {ps : List (Str × Str)} {t : AE} {ρ : Rho} {κ : Cs} {R : D → Cs → Prop} : aPick ps t ρ κ R ↔ t ρ κ fun d κ1 => ∃ x y, d = .str x ∧ ps.lookup x = some y ∧ R (.str y) κ1 := .rfl
theorem use_inSidesL {κ : Cs} {R : D → Cs → Prop} {f : Bool → Bool} {s : Sd} {ss : List Sd} (hR : R (.bl (f (decide (s ∈ ss)))) κ) : dInL f (sideD s) (.lst (ss.map sideD)) κ R := by
  refine ⟨ss.map sideD, rfl, ⟨plain_side s, Nat.le_trans (dep_side s) (by decide)⟩, ⟨?_, ?_⟩, ?_⟩
  · rw [plain]
    exact plains_map plain_side ss
  · rw [dep]
    have := deps_map (n := 1) dep_side ss
    omega
  · have e : ((ss.map sideD).any fun z => eqD z (view κ (sideD s))) = decide (s ∈ ss) := by
      rw [show view κ (sideD s) = sideD s from rfl, List.any_map, Bool.eq_iff_iff, List.any_eq_true, decide_eq_true_eq]
      constructor
      · rintro ⟨t, ht, e⟩
        have e' : eqD (sideD t) (sideD s) = true := e
        rw [eqD_side] at e'
        rw [← of_decide_eq_true e']
        exact ht
      · intro hs
        exact ⟨s, hs, by show eqD (sideD s) (sideD s) = true; rw [eqD_side]; exact decide_eq_true rfl⟩
    rw [e]
    exact hR
def cap (m x : Int) : Int := if m < x then m else x
end PD
set_option Elab.async false
set_option linter.all false
set_option autoImplicit false
set_option maxRecDepth 100000
set_option maxHeartbeats 4000000
/-! Plain laws of packings: more sides, few sides, weights multiplied, seats joined. -/
namespace PD
def Heavy (ws qs : List Int) (ss : List Sd) : Prop := ∃ fs, Packs ws (ss.map (room ws qs)) fs
/-! ### one side more -/
theorem packs_more {ws rooms : List Int} {r : Int} {fs : List Nat} (hr : 0 ≤ r) (p : Packs ws rooms fs) : Packs ws (rooms ++ [r]) fs := by
  refine ⟨p.len, fun j hj => by rw [List.length_append]; have := p.lt j hj; simp; omega, fun j hj => ?_⟩
  rw [List.length_append] at hj
  simp only [List.length_cons, List.length_nil] at hj
  by_cases q : j < rooms.length
  · rw [List.getD_eq_getElem?_getD, List.getElem?_append_left q, ← List.getD_eq_getElem?_getD]
    exact p.fit j q
  · have e : j = rooms.length := by omega
    subst e
    have h0 : sumAt ws (fun s => fs.getD s 0) (List.range ws.length) rooms.length = 0 := sumAt_none fun s hs => by
      have hs := List.mem_range.mp hs
      have h1 : s < fs.length := by rw [p.len]; exact hs
      have := p.lt (fs.getD s 0) (by rw [getD_lt h1]; exact List.getElem_mem h1)
      omega
    rw [h0, List.getD_eq_getElem?_getD, List.getElem?_append_right (Nat.le_refl _), Nat.sub_self]
    exact hr
theorem heavy_more {ws qs : List Int} {ss : List Sd} {s : Sd} (g : GoodC ws qs) (hs : s.1 < qs.length) (h : Heavy ws qs ss) : Heavy ws qs (ss ++ [s]) := by
  obtain ⟨fs, p⟩ := h
  refine ⟨fs, ?_⟩
  rw [List.map_append]
  have hq := g.q (qs.getD s.1 0) (by rw [getD_lt hs]; exact List.getElem_mem hs)
  exact packs_more (by rw [room]; split <;> omega) p
/-! ### few sides -/
theorem packs_zero {ws : List Int} {fs : List Nat} (h2 : 2 ≤ ws.length) (p : Packs ws [] fs) : False := by
  have h1 : 0 < fs.length := by rw [p.len]; omega
  have := p.lt _ (List.getElem_mem h1)
  simp at this
theorem packs_one {ws : List Int} {r : Int} {fs : List Nat} (p : Packs ws [r] fs) : ws.sum ≤ r := by
  have h := p.fit 0 (by simp)
  have e : sumAt ws (fun s => fs.getD s 0) (List.range ws.length) 0 = ws.sum := by
    rw [sumAt_all fun s hs => ?_]
    · exact wsum
    · have hs := List.mem_range.mp hs
      have h1 : s < fs.length := by rw [p.len]; exact hs
      have := p.lt (fs.getD s 0) (by rw [getD_lt h1]; exact List.getElem_mem h1)
      simp only [List.length_cons, List.length_nil] at this
      omega
  rw [e] at h
  exact h
theorem packs_two {ws : List Int} {r t : Int} {fs : List Nat} (p : Packs ws [r, t] fs) : ws.sum ≤ r + t := by
  have h := p.fit 0 (by simp)
  have h' := p.fit 1 (by simp)
  have e := sums_not (p := fun s => decide (fs.getD s 0 = 0)) (w := wAt ws) (List.range ws.length)
  rw [wsum] at e
  have e2 : (((List.range ws.length).filter fun s => !decide (fs.getD s 0 = 0)).map (wAt ws)).sum = sumAt ws (fun s => fs.getD s 0) (List.range ws.length) 1 := by
    refine sums_congr _ fun s hs => ?_
    have hs := List.mem_range.mp hs
    have h1 : s < fs.length := by rw [p.len]; exact hs
    have := p.lt (fs.getD s 0) (by rw [getD_lt h1]; exact List.getElem_mem h1)
    simp only [List.length_cons, List.length_nil] at this
    rw [Bool.eq_iff_iff]
    simp only [Bool.not_eq_true', decide_eq_false_iff_not, decide_eq_true_eq]
    omega
  rw [e2] at e
  have h3 : sumAt ws (fun s => fs.getD s 0) (List.range ws.length) 0 ≤ r := h
  have h4 : sumAt ws (fun s => fs.getD s 0) (List.range ws.length) 1 ≤ t := h'
  have h5 : sumAt ws (fun s => fs.getD s 0) (List.range ws.length) 0 = (((List.range ws.length).filter fun s => decide (fs.getD s 0 = 0)).map (wAt ws)).sum := rfl
  omega
theorem light_both {ws qs : List Int} {c : Nat} : ¬ Heavy ws qs [(c, false), (c, true)] := by
  rintro ⟨fs, p⟩
  have := packs_two (r := ws.sum - qs.getD c 0) (t := qs.getD c 0 - 1) (by simpa [room] using p)
  omega
theorem light_few {ws qs : List Int} {ss : List Sd} (g : GoodC ws qs) (hs : ∀ s ∈ ss, s.1 < qs.length) : ¬ Heavy ws qs (ss.take 1) := by
  rintro ⟨fs, p⟩
  cases ss with
  | nil => exact packs_zero g.w2 (by simpa using p)
  | cons s ss =>
    have hsq := hs s (by simp)
    have hq := g.q (qs.getD s.1 0) (by rw [getD_lt hsq]; exact List.getElem_mem hsq)
    have := packs_one (r := room ws qs s) (by simpa using p)
    rw [room] at this
    split at this <;> omega
/-! ### the mirrored council -/
def mirQ (ws qs : List Int) : List Int := qs.map fun q => ws.sum + 1 - q
def turn (s : Sd) : Sd := (s.1, !s.2)
theorem room_mir {ws qs : List Int} {s : Sd} (hs : s.1 < qs.length) : room ws (mirQ ws qs) (turn s) = room ws qs s := by
  have e : (mirQ ws qs).getD s.1 0 = ws.sum + 1 - qs.getD s.1 0 := by
    rw [mirQ, getD_lt (by rw [List.length_map]; exact hs), List.getElem_map, getD_lt hs]
  obtain ⟨c, w⟩ := s
  simp only [room, turn]
  rw [e]
  cases w
  · simp; omega
  · simp; omega
theorem good_mir {ws qs : List Int} (g : GoodC ws qs) : GoodC ws (mirQ ws qs) := by
  refine ⟨g.w2, g.w7, g.w1, by rw [mirQ, List.length_map]; exact g.q1, by rw [mirQ, List.length_map]; exact g.q6, fun q hq => ?_⟩
  obtain ⟨q', h, rfl⟩ := List.mem_map.mp hq
  have := g.q q' h
  omega
theorem heavy_mir {ws qs : List Int} {ss : List Sd} (hs : ∀ s ∈ ss, s.1 < qs.length) : Heavy ws (mirQ ws qs) (ss.map turn) ↔ Heavy ws qs ss := by
  have e : (ss.map turn).map (room ws (mirQ ws qs)) = ss.map (room ws qs) := by
    rw [List.map_map]
    exact List.map_congr_left fun s h => room_mir (hs s h)
  unfold Heavy
  rw [e]
/-! ### weights multiplied -/
/-- q' reaches with the weights times m what q reaches -/
def TimesQ (m : Int) (qs qs' : List Int) : Prop := qs'.length = qs.length ∧ ∀ c, c < qs.length → ∃ r, 0 ≤ r ∧ r < m ∧ qs'.getD c 0 = qs.getD c 0 * m - r
theorem sum_times (m : Int) : ∀ ws : List Int, (ws.map (· * m)).sum = ws.sum * m
  | [] => by simp
  | w :: ws => by rw [List.map_cons, List.sum_cons, List.sum_cons, sum_times m ws, Int.add_mul]
theorem wAt_times (m : Int) (ws : List Int) (s : Nat) : wAt (ws.map (· * m)) s = wAt ws s * m := by
  rw [wAt, wAt, List.getD_eq_getElem?_getD, List.getD_eq_getElem?_getD, List.getElem?_map]
  cases ws[s]? with
  | none => simp
  | some x => rfl
theorem sums_times (m : Int) (ws : List Int) (l : List Nat) : (l.map (wAt (ws.map (· * m)))).sum = (l.map (wAt ws)).sum * m := by
  induction l with
  | nil => simp
  | cons s l ih => rw [List.map_cons, List.map_cons, List.sum_cons, List.sum_cons, ih, wAt_times, Int.add_mul]
theorem times_le {m q r x : Int} (h0 : 0 ≤ r) (h1 : r < m) : q * m - r ≤ x * m ↔ q ≤ x := by
  constructor
  · intro h
    refine Classical.byContradiction fun hn => ?_
    have : x + 1 ≤ q := by omega
    have := Int.mul_le_mul_of_nonneg_right this (show 0 ≤ m by omega)
    rw [Int.add_mul] at this
    omega
  · intro h
    have := Int.mul_le_mul_of_nonneg_right h (show 0 ≤ m by omega)
    omega
theorem room_times {m : Int} {ws qs qs' : List Int} {s : Sd} (t : TimesQ m qs qs') (hs : s.1 < qs.length) (x : Int) : x * m ≤ room (ws.map (· * m)) qs' s ↔ x ≤ room ws qs s := by
  obtain ⟨r, h0, h1, e⟩ := t.2 s.1 hs
  have a := times_le (q := qs.getD s.1 0) (x := x) h0 h1
  have b := times_le (q := qs.getD s.1 0) (x := ws.sum - x) h0 h1
  rw [Int.sub_mul] at b
  rw [room, room, e, sum_times]
  split
  · omega
  · omega
theorem heavy_times {m : Int} {ws qs qs' : List Int} {ss : List Sd} (t : TimesQ m qs qs') (hs : ∀ s ∈ ss, s.1 < qs.length) : Heavy (ws.map (· * m)) qs' ss ↔ Heavy ws qs ss := by
  have key : ∀ fs, Packs (ws.map (· * m)) (ss.map (room (ws.map (· * m)) qs')) fs ↔ Packs ws (ss.map (room ws qs)) fs := by
    intro fs
    have fit : ∀ j, j < ss.length → (sumAt (ws.map (· * m)) (fun s => fs.getD s 0) (List.range (ws.map (· * m)).length) j ≤ (ss.map (room (ws.map (· * m)) qs')).getD j 0 ↔ sumAt ws (fun s => fs.getD s 0) (List.range ws.length) j ≤ (ss.map (room ws qs)).getD j 0) := by
      intro j hj
      rw [getD_lt (by rw [List.length_map]; exact hj), getD_lt (by rw [List.length_map]; exact hj), List.getElem_map, List.getElem_map, sumAt, sums_times, List.length_map]
      exact room_times t (hs _ (List.getElem_mem hj)) _
    constructor
    · intro p
      refine ⟨by have := p.len; rwa [List.length_map] at this, fun j hj => by have := p.lt j hj; rw [List.length_map] at this ⊢; exact this, fun j hj => ?_⟩
      rw [List.length_map] at hj
      exact (fit j hj).mp (p.fit j (by rw [List.length_map]; exact hj))
    · intro p
      refine ⟨by rw [List.length_map]; exact p.len, fun j hj => by have := p.lt j hj; rw [List.length_map] at this ⊢; exact this, fun j hj => ?_⟩
      rw [List.length_map] at hj
      exact (fit j hj).mpr (p.fit j (by rw [List.length_map]; exact hj))
  exact ⟨fun ⟨fs, p⟩ => ⟨fs, (key fs).mp p⟩, fun ⟨fs, p⟩ => ⟨fs, (key fs).mpr p⟩⟩
theorem reach_times {m : Int} {ws qs qs' : List Int} {c : Nat} (t : TimesQ m qs qs') (hc : c < qs.length) (g : List Nat) : qs'.getD c 0 ≤ sumW (ws.map (· * m)) g ↔ qs.getD c 0 ≤ sumW ws g := by
  obtain ⟨r, h0, h1, e⟩ := t.2 c hc
  rw [sumW, sums_times, e]
  exact times_le h0 h1
theorem Wt_times (m : Int) : ∀ (es ws : List Int) (u : Int), Wt (es.zip (ws.map (· * m))) u = Wt (es.zip ws) u * m
  | [], _, _ => by simp [Wt]
  | _ :: _, [], _ => by simp [Wt]
  | e :: es, w :: ws, u => by
    rw [List.map_cons, List.zip_cons_cons, List.zip_cons_cons, Wt, Wt, Wt_times m es ws u, Int.add_mul]
    split
    · rfl
    · simp
theorem pick_times {m q r : Int} {ws es : List Int} (hl : es.length = ws.length) (hw : ∀ w ∈ ws, 1 ≤ w) (h0 : 0 < q) (h1 : q ≤ ws.sum) (r0 : 0 ≤ r) (r1 : r < m) : pick (ws.map (· * m)) (q * m - r) es = pick ws q es := by
  have hl' : es.length = (ws.map (· * m)).length := by rw [List.length_map]; exact hl
  have hm : 0 < m := by omega
  have hw' : ∀ w ∈ ws.map (· * m), 1 ≤ w := fun w h => by
    obtain ⟨v, hv, rfl⟩ := List.mem_map.mp h
    have := Int.mul_le_mul_of_nonneg_right (hw v hv) (show 0 ≤ m by omega)
    omega
  have h0' : 0 < q * m - r := by
    have := Int.mul_le_mul_of_nonneg_right (show 1 ≤ q by omega) (show 0 ≤ m by omega)
    omega
  have h1' : q * m - r ≤ (ws.map (· * m)).sum := by
    rw [sum_times]
    exact (times_le r0 r1).mpr h1
  have s1 := pick_spec hl hw h0 h1
  have s2 := pick_spec hl' hw' h0' h1'
  have a : pick (ws.map (· * m)) (q * m - r) es ≤ pick ws q es := pick_le hl' hw' h0' h1' (by
    rw [Wt_times]
    exact (times_le r0 r1).mpr s1.1)
  have b : pick ws q es ≤ pick (ws.map (· * m)) (q * m - r) es := pick_le hl hw h0 h1 (by
    have := s2.1
    rw [Wt_times] at this
    exact (times_le r0 r1).mp this)
  omega
theorem outs_times {m : Int} {ws qs qs' : List Int} {rows : List (List Int)} (g : GoodC ws qs) (t : TimesQ m qs qs') (hl : rows.length = ws.length) : outs (ws.map (· * m)) qs' rows = outs ws qs rows := by
  unfold outs
  rw [t.1]
  refine List.map_congr_left fun c hc => ?_
  have hc := List.mem_range.mp hc
  obtain ⟨r, h0, h1, e⟩ := t.2 c hc
  have hq := g.q (qs.getD c 0) (by rw [getD_lt hc]; exact List.getElem_mem hc)
  rw [e]
  exact pick_times (by rw [colOf, List.length_map, hl]) (fun w h => (g.w1 w h).1) (by omega) hq.2 h0 h1
/-! ### seats joined -/
def sumZ (ps : List (Nat × Int)) (j : Nat) : Int := ((ps.filter fun p => decide (p.1 = j)).map (·.2)).sum
theorem sumZ_app (a b : List (Nat × Int)) (j : Nat) : sumZ (a ++ b) j = sumZ a j + sumZ b j := by
  rw [sumZ, List.filter_append, List.map_append, List.sum_append]
  rfl
theorem sumZ_cons (p : Nat × Int) (b : List (Nat × Int)) (j : Nat) : sumZ (p :: b) j = (if p.1 = j then p.2 else 0) + sumZ b j := by
  rw [sumZ, List.filter_cons]
  by_cases h : p.1 = j
  · rw [if_pos (decide_eq_true h), if_pos h, List.map_cons, List.sum_cons]
    rfl
  · rw [if_neg (by simpa using h), if_neg h, Int.zero_add]
    rfl
theorem sumAt_zip {ws : List Int} {fs : List Nat} (h : fs.length = ws.length) (j : Nat) : sumAt ws (fun s => fs.getD s 0) (List.range ws.length) j = sumZ (fs.zip ws) j := by
  rw [sumZ, zip_range 0 0 fs ws h, List.filter_map, List.map_map]
  rfl
theorem joined_packs {A B rooms : List Int} {w0 wa : Int} {fs : List Nat} (p : Packs ((w0 + wa) :: (A ++ B)) rooms fs) : ∃ fs', Packs (w0 :: (A ++ wa :: B)) rooms fs' := by
  have hl := p.len
  cases fs with
  | nil => simp at hl
  | cons f0 fs =>
    have hl2 : fs.length = A.length + B.length := by simpa using hl
    have e : fs = fs.take A.length ++ fs.drop A.length := (List.take_append_drop _ _).symm
    have la : (fs.take A.length).length = A.length := by rw [List.length_take]; omega
    have lb : (fs.drop A.length).length = B.length := by rw [List.length_drop]; omega
    generalize fs.take A.length = FA at *
    generalize fs.drop A.length = FB at *
    subst e
    refine ⟨f0 :: (FA ++ f0 :: FB), ⟨by simp [la, lb], fun j hj => ?_, fun j hj => ?_⟩⟩
    · refine p.lt j ?_
      simp at hj ⊢
      rcases hj with h | h | h | h <;> simp [h]
    · have h1 := p.fit j hj
      rw [sumAt_zip hl, List.zip_cons_cons, List.zip_append la, sumZ_cons, sumZ_app] at h1
      rw [sumAt_zip (by simp [la, lb]), List.zip_cons_cons, List.zip_append la, List.zip_cons_cons, sumZ_cons, sumZ_app, sumZ_cons]
      simp only at h1 ⊢
      split at h1 <;> simp_all <;> omega
end PD
set_option Elab.async false
set_option linter.all false
set_option maxRecDepth 100000
set_option maxHeartbeats 4000000
/-! Bodies for law k37: mirrored councils, groups of seats, differences, weights multiplied, seats joined. -/
namespace PD
open PySem PySem.Spec PyProof.Rows L2
def c_Council_mirrored : Con := fun ds κ R => ∃ ws qs : List Int, ds = [cO ws qs] ∧ GoodC ws qs ∧ R (cO ws (mirQ ws qs)) κ
def c_Council_len : Con := fun ds κ R => ∃ ws qs : List Int, ds = [cO ws qs] ∧ R (.int ws.length) κ
def c_Council_width : Con := fun ds κ R => ∃ ws qs : List Int, ds = [cO ws qs] ∧ R (.int qs.length) κ
def c_law_is_heavy : Con := fun ds κ R => ∃ (ws qs : List Int) (ss : List Sd), ds = [.tup [lN ws, lN qs], .lst (ss.map sideD)] ∧ GoodC ws qs ∧ (∀ s ∈ ss, s.1 < qs.length) ∧ ss.length ≤ 1000 ∧ ∀ b : Bool, (b = true ↔ Heavy ws qs ss) → R (.bl b) κ
def c_groups_of : Con := fun ds κ R => ∃ n : Nat, ds = [.int (n : Nat)] ∧ n ≤ 7 ∧ ∀ gs : List (List Nat), (∀ g ∈ gs, g.length ≤ 7 ∧ ∀ s ∈ g, s < n) → gs.length ≤ 1000 → R (.lst (gs.map lX)) κ
def c_reaches : Con := fun ds κ R => ∃ (ws qs : List Int) (c : Nat) (g : List Nat), ds = [cO ws qs, .int (c : Nat), lX g] ∧ c < qs.length ∧ g.length ≤ 7 ∧ (∀ s ∈ g, s < ws.length) ∧ R (.bl (decide (qs.getD c 0 ≤ sumW ws g))) κ
def c_difference : Con := fun ds κ R => ∃ ws qs ws' qs' : List Int, ds = [cO ws qs, cO ws' qs'] ∧ ws.length ≤ 7 ∧ ws'.length = ws.length ∧ qs.length ≤ 6 ∧ qs'.length = qs.length ∧
  (∀ c g, c < qs.length → (∀ s ∈ g, s < ws.length) → (qs'.getD c 0 ≤ sumW ws' g ↔ qs.getD c 0 ≤ sumW ws g)) ∧ R .non κ
abbrev N_Council_mirrored : List Str := ["self", "quota"]
abbrev P_Council_mirrored : List Str := ["self"]
@[reducible] def t_Council_mirrored : AS :=
  (aRet (aFrz (aMake "Council" c_Council_init (aCons (aFld "Council" "seat_weights" (aVar 0)) (aCons (aData (aComp (aIt (aFld "Council" "column_quotas" (aVar 0))) (aName 1) aYes (aOp dSub (aOp dAdd (aMeth "Council" "total" c_Council_total (aVar 0) aNil) (aC (.int 1))) (aVar 1)) [1])) aNil)))))
abbrev N_Council_len : List Str := ["self"]
abbrev P_Council_len : List Str := ["self"]
@[reducible] def t_Council_len : AS :=
  (aRet (aCB dLen (aCons (aFld "Council" "seat_weights" (aVar 0)) aNil)))
abbrev N_Council_width : List Str := ["self"]
abbrev P_Council_width : List Str := ["self"]
@[reducible] def t_Council_width : AS :=
  (aRet (aCB dLen (aCons (aFld "Council" "column_quotas" (aVar 0)) aNil)))
abbrev N_law_is_heavy : List Str := ["parts", "sides"]
abbrev P_law_is_heavy : List Str := ["parts", "sides"]
@[reducible] def t_law_is_heavy : AS :=
  (aRet (aOp dNotN (aCB c_packing (aCons (aCB c_law_made (aCons (aVar 0) aNil)) (aCons (aVar 1) aNil))) (aC .non)))
abbrev N_groups_of : List Str := ["many", "found", "seat", "group"]
abbrev P_groups_of : List Str := ["many"]
@[reducible] def t_groups_of : AS :=
  (aSeq (aAsg (aData (aLst (aCons (aData (aLst aNil)) aNil))) (aName 1))
  (aSeq (aFor (aRngN (aCons (aOp dSub (aVar 0) (aC (.int 1))) (aCons (aUn dNeg (aC (.int 1))) (aCons (aUn dNeg (aC (.int 1))) aNil)))) (aName 2)
  (aAsg (aOp dAdd (aOp dAdd (aData (aLst (aCons (aData (aLst aNil)) aNil))) (aData (aComp (aIt (aVar 1)) (aName 3) (aOrT (aTest (aOp dEq (aVar 3) (aData (aLst aNil)))) (aTest (aOp dGt (aOp dIx (aVar 3) (aC (.int 0))) (aVar 2)))) (aOp dAdd (aData (aLst (aCons (aVar 2) aNil))) (aVar 3)) [3]))) (aSl (aVar 1) (aPart (aC (.int 1))) aNoPart)) (aName 1)))
  (aRet (aVar 1))))
abbrev N_reaches : List Str := ["council", "column", "group", "weights", "seat"]
abbrev P_reaches : List Str := ["council", "column", "group"]
@[reducible] def t_reaches : AS :=
  (aSeq (aAsg (aMeth "Council" "weights" c_Council_weights (aVar 0) aNil) (aName 3))
  (aRet (aOp dGe (aCB dSum (aCons (aData (aComp (aIt (aVar 2)) (aName 4) aYes (aOp dIx (aVar 3) (aVar 4)) [4])) aNil)) (aOp dIx (aMeth "Council" "quotas" c_Council_quotas (aVar 0) aNil) (aVar 1)))))
abbrev N_difference : List Str := ["one", "other", "groups", "column", "group"]
abbrev P_difference : List Str := ["one", "other"]
@[reducible] def t_difference : AS :=
  (aSeq (aAsg (aCB c_groups_of (aCons (aCB (dLenO "Council" c_Council_len) (aCons (aVar 0) aNil)) aNil)) (aName 2))
  (aSeq (aFor (aRng1 (aCons (aMeth "Council" "width" c_Council_width (aVar 0) aNil) aNil)) (aName 3)
  (aFor (aIt (aVar 2)) (aName 4)
  (aIfS (aTest (aOp dNe (aCB c_reaches (aCons (aVar 0) (aCons (aVar 3) (aCons (aVar 4) aNil)))) (aCB c_reaches (aCons (aVar 1) (aCons (aVar 3) (aCons (aVar 4) aNil)))))) (aRet (aTup (aCons (aVar 3) (aCons (aVar 4) aNil)))) aNext)))
  (aRet (aC .non))))
theorem l_Council_mirrored : ∀ ds κ R, c_Council_mirrored ds κ R → ds.length = P_Council_mirrored.length := by
  rintro ds κ R ⟨_, _, rfl, _⟩
  rfl
theorem l_Council_len : ∀ ds κ R, c_Council_len ds κ R → ds.length = P_Council_len.length := by
  rintro ds κ R ⟨_, _, rfl, _⟩
  rfl
theorem l_Council_width : ∀ ds κ R, c_Council_width ds κ R → ds.length = P_Council_width.length := by
  rintro ds κ R ⟨_, _, rfl, _⟩
  rfl
theorem l_law_is_heavy : ∀ ds κ R, c_law_is_heavy ds κ R → ds.length = P_law_is_heavy.length := by
  rintro ds κ R ⟨_, _, _, rfl, _⟩
  rfl
theorem l_groups_of : ∀ ds κ R, c_groups_of ds κ R → ds.length = P_groups_of.length := by
  rintro ds κ R ⟨_, rfl, _⟩
  rfl
theorem l_reaches : ∀ ds κ R, c_reaches ds κ R → ds.length = P_reaches.length := by
  rintro ds κ R ⟨_, _, _, _, rfl, _⟩
  rfl
theorem l_difference : ∀ ds κ R, c_difference ds κ R → ds.length = P_difference.length := by
  rintro ds κ R ⟨_, _, _, _, rfl, _⟩
  rfl
theorem b_Council_len : Body N_Council_len t_Council_len c_Council_len := by
  rintro ds κ R co ⟨ws, qs, rfl, h⟩
  simp [-Bool.exists_bool, start, cO, lk1, -List.lookup_eq_none_iff]
  exact .inl h
theorem b_Council_width : Body N_Council_width t_Council_width c_Council_width := by
  rintro ds κ R co ⟨ws, qs, rfl, h⟩
  simp [-Bool.exists_bool, start, cO, lk2, -List.lookup_eq_none_iff]
  exact .inl h
theorem b_Council_mirrored : Body N_Council_mirrored t_Council_mirrored c_Council_mirrored := by
  rintro ds κ R co ⟨ws, qs, rfl, g, h⟩
  have h6 := g.q6
  simp [-Bool.exists_bool, start, cO, lk1, lk2, lk5, -List.lookup_eq_none_iff, List.replicate]
  refine comp_pure (b := fun q => D.int (ws.sum + 1 - q)) (by omega) (fun q hq Z hz => ?_) ?_
  · simp [-Bool.exists_bool, lk5, -List.lookup_eq_none_iff]
    refine ⟨ws, qs, rfl, ?_⟩
    simp [-Bool.exists_bool]
    exact hz
  · refine ⟨κ.length, ws, mirQ ws qs, ?_, own_get rfl, good_mir g, ?_⟩
    · rw [mirQ, lN, lN, List.map_map]
      rfl
    · simp [own_get rfl, own_set rfl]
      exact fin_app co (blw_cO _ _ _) h
theorem b_law_is_heavy : Body N_law_is_heavy t_law_is_heavy c_law_is_heavy := by
  rintro ds κ R co ⟨ws, qs, ss, rfl, g, hs, hn, h⟩
  simp [-Bool.exists_bool, start]
  refine ⟨ws, qs, rfl, g, ?_⟩
  refine ⟨ws, qs, ss, rfl, g, hs, hn, fun fs p => ?_, fun hno => ?_⟩
  · simp [-Bool.exists_bool]
    exact .inl (h true ⟨fun _ => ⟨fs, p⟩, fun _ => rfl⟩)
  · simp [-Bool.exists_bool]
    exact .inl (h false ⟨fun e => (by cases e), fun e => absurd e hno⟩)
theorem b_reaches : Body N_reaches t_reaches c_reaches := by
  rintro ds κ R co ⟨ws, qs, c, g, rfl, hc, hg, hs, h⟩
  simp [-Bool.exists_bool, start, cO, -List.lookup_eq_none_iff, lk3, List.replicate]
  refine ⟨ws, qs, rfl, ?_⟩
  refine comp_pure (b := fun s => D.int (wAt ws s)) (by omega) (fun s hm Z hz => ?_) ?_
  · have e := atI_map (f := D.int) (hs s hm)
    simp [-Bool.exists_bool]
    refine ⟨_, e, ?_⟩
    rw [wAt_lt (hs s hm)] at hz
    exact hz
  · have eg : g.map (fun s => D.int (wAt ws s)) = (g.map (wAt ws)).map D.int := by
      rw [List.map_map]
      rfl
    rw [eg]
    refine e_sum ⟨lk4, ws, qs, rfl, ?_⟩
    refine ⟨_, atI_map (f := D.int) hc, ?_⟩
    simp [-Bool.exists_bool]
    rw [getD_lt hc] at h
    exact .inl h
/-! ### groups of seats -/
@[simp] theorem e_rngN {ta : AA} {ρ : Rho} {κ : Cs} {RA : List D → Cs → Prop} : aRngN ta ρ κ RA ↔ ta ρ κ fun ds κ' => ∃ i j : Int, ds = [.int i, .int j, .int (-1)] ∧ (-1000000000 ≤ i ∧ i ≤ 1000000000 ∧ -1000000000 ≤ j ∧ j ≤ 1000000000) ∧ RA (rangeN i (i - j).toNat) κ' := .rfl
@[simp] theorem e_lenO {c : Str} {G : Con} {d : D} {κ : Cs} {R : D → Cs → Prop} : dLenO c G [d] κ R ↔ ∃ fs, objOf κ d = some (c, fs) ∧ G [d] κ fun v κ2 => ∃ n : Nat, v = .int (n : Nat) ∧ n ≤ 1000000 ∧ R (.int (n : Nat)) κ2 := .rfl
theorem lk7 {a b : D} : List.lookup ("width" : Str) [(("seat_weights" : Str), a), (("column_quotas" : Str), b)] = none := rfl
def takeG (s : Nat) (g : List Nat) : Bool := match g with
  | [] => true
  | t :: _ => decide ((s : Int) < (t : Nat))
theorem b_groups_of : Body N_groups_of t_groups_of c_groups_of := by
  rintro ds κ R co ⟨n, rfl, hn, h⟩
  simp [-Bool.exists_bool, start, List.replicate]
  refine ⟨_, _, ⟨rfl, rfl⟩, by omega, ?_⟩
  rw [show ((n : Int) - 1 - -1).toNat = n by omega]
  refine loop_ran (n := n) (h := fun i => D.int ((n : Int) - 1 - (i : Nat))) (fun i ρ κ' => κ' = κ ∧ ∃ (gs : List (List Nat)) (x : Option D), (∀ g ∈ gs, g.length ≤ i ∧ ∀ s ∈ g, s < n) ∧ 1 ≤ gs.length ∧ gs.length ≤ 2 ^ i ∧ ρ = [some (.int (n : Nat)), some (lB gs), x, none]) ⟨rfl, [[]], _, by simp, by simp, by simp, rfl⟩ ?_ ?_
  · rintro i ρ κ' hi ⟨rfl, gs, x, hg, h1, h2, rfl⟩ Z hZ
    have hp : 2 ^ i ≤ 2 ^ 7 := Nat.pow_le_pow_right (by omega) (by omega)
    have hgl : gs.length ≤ 128 := Nat.le_trans h2 hp
    have es : (n : Int) - 1 - (i : Nat) = ((n - 1 - i : Nat) : Int) := by omega
    generalize hsd : n - 1 - i = sd at es
    simp only [es]
    simp [-Bool.exists_bool, lB]
    refine comp_filt (p := takeG sd) (b := fun g => lX (sd :: g)) (by omega) (fun g hm W Y w1 w2 => ?_) ?_
    · simp [-Bool.exists_bool]
      have add : W (lX (sd :: g)) κ' → dAdd (D.lst [D.int (sd : Nat)]) (lX g) κ' W := fun w => by
        rw [lX, e_addL]
        refine ⟨by have := (hg g hm).1; simp; omega, ?_⟩
        exact w
      cases g with
      | nil =>
        rw [if_pos rfl]
        exact add (w1 rfl)
      | cons t g =>
        rw [if_neg (by simp)]
        simp [-Bool.exists_bool]
        split
        · rename_i q
          exact add (w1 (by simpa [takeG] using q))
        · rename_i q
          exact w2 (by simpa [takeG] using q)
    · have ec : cutD (gs.map lX) (some 1) none = (gs.drop 1).map lX := by
        rw [show (1 : Int) = ((1 : Nat) : Int) from rfl, cut_lo, List.map_drop]
      have ef : (List.filter (takeG sd) gs).length ≤ gs.length := List.length_filter_le _ _
      rw [ec]
      refine ⟨by rw [List.length_map]; omega, by rw [List.length_map, List.length_map, List.length_drop]; omega, ?_⟩
      have eB : (D.lst (D.lst [] :: ((List.filter (takeG sd) gs).map (fun g => lX (sd :: g)) ++ (gs.drop 1).map lX))) = lB ([] :: ((List.filter (takeG sd) gs).map (fun g => sd :: g) ++ gs.drop 1)) := by
        rw [lB, List.map_cons, List.map_append, List.map_map]
        rfl
      rw [eB]
      refine hZ _ _ ⟨rfl, _, _, fun g hm => ?_, by simp, ?_, rfl⟩
      · rcases List.mem_cons.mp hm with rfl | hm
        · exact ⟨by simp, fun _ h => nomatch h⟩
        · rcases List.mem_append.mp hm with hm | hm
          · obtain ⟨g', hm2, rfl⟩ := List.mem_map.mp hm
            have := hg g' (List.mem_filter.mp hm2).1
            refine ⟨by rw [List.length_cons]; omega, fun t ht => ?_⟩
            rcases List.mem_cons.mp ht with rfl | ht
            · omega
            · exact this.2 t ht
          · have := hg g (List.mem_of_mem_drop hm)
            exact ⟨by omega, this.2⟩
      · rw [List.length_cons, List.length_append, List.length_map, List.length_drop, Nat.pow_succ]
        omega
  · rintro ρ κ' ⟨rfl, gs, x, hg, h1, h2, rfl⟩
    have hp : 2 ^ n ≤ 2 ^ 7 := Nat.pow_le_pow_right (by omega) (by omega)
    simp [-Bool.exists_bool]
    exact .inl (h gs (fun g hm => ⟨by have := (hg g hm).1; omega, (hg g hm).2⟩) (by omega))
theorem b_difference : Body N_difference t_difference c_difference := by
  rintro ds κ R co ⟨ws, qs, ws', qs', rfl, hw, hww, hq, hqq, hs, h⟩
  simp [-Bool.exists_bool, start, List.replicate, -List.lookup_eq_none_iff]
  refine ⟨⟨_, rfl⟩, ws, qs, rfl, ws.length, rfl, by omega, ws.length, rfl, hw, fun gs hg hgl => ?_⟩
  refine ⟨_, rfl, lk7, ws, qs, rfl, ?_⟩
  refine ⟨by omega, ?_⟩
  refine loop_rng (fun c ρ κ' => κ' = κ ∧ ∃ x y, ρ = [some (cO ws qs), some (cO ws' qs'), some (.lst (gs.map lX)), x, y]) ⟨rfl, _, _, rfl⟩ ?_ ?_
  · rintro c ρ κ' hc ⟨rfl, x, y, rfl⟩ Z hZ
    simp [-Bool.exists_bool]
    refine loop_map (fun todo ρ κ'' => κ'' = κ' ∧ (∀ g ∈ todo, g.length ≤ 7 ∧ ∀ s ∈ g, s < ws.length) ∧ ∃ y, ρ = [some (cO ws qs), some (cO ws' qs'), some (.lst (gs.map lX)), some (.int (c : Nat)), y]) ⟨rfl, hg, _, rfl⟩ ?_ ?_
    · rintro g todo ρ κ'' ⟨rfl, hg', y, rfl⟩ Y hY
      have hgg := hg' g (by simp)
      simp [-Bool.exists_bool]
      refine ⟨ws, qs, c, g, rfl, by omega, hgg.1, hgg.2, ?_⟩
      refine ⟨ws', qs', c, g, rfl, by omega, hgg.1, fun s hm => by rw [hww]; exact hgg.2 s hm, ?_⟩
      have e : decide (qs'.getD c 0 ≤ sumW ws' g) = decide (qs.getD c 0 ≤ sumW ws g) := decide_eq_decide.mpr (hs c g (by omega) hgg.2)
      rw [e]
      simp [-Bool.exists_bool]
      exact hY _ _ ⟨rfl, fun g' hm => hg' g' (by simp [hm]), _, rfl⟩
    · rintro ρ κ'' ⟨rfl, hg', y, rfl⟩
      exact hZ _ _ ⟨rfl, _, _, rfl⟩
  · rintro ρ κ' ⟨rfl, x, y, rfl⟩
    simp [-Bool.exists_bool]
    exact .inl h
end PD
set_option Elab.async false
set_option linter.all false
set_option autoImplicit false
set_option maxRecDepth 100000
set_option maxHeartbeats 4000000
/-! Plain laws: completions and packings are the same; levels of loads. -/
namespace PD
theorem perm_map_inv {α β : Type} {f : α → β} {l' m : List β} (h : l'.Perm m) : ∀ l : List α, m = l.map f → ∃ l'' : List α, l''.Perm l ∧ l''.map f = l' := by
  induction h with
  | nil =>
    intro l e
    cases l with
    | nil => exact ⟨[], .nil, rfl⟩
    | cons a l => simp at e
  | cons x h ih =>
    intro l e
    cases l with
    | nil => simp at e
    | cons a l =>
      rw [List.map_cons] at e
      injection e with e1 e2
      obtain ⟨l2, p, e3⟩ := ih l e2
      exact ⟨a :: l2, p.cons a, by rw [List.map_cons, e3, e1]⟩
  | swap x y r =>
    intro l e
    match l, e with
    | [], e => simp at e
    | [a], e => simp at e
    | a :: b :: l, e =>
      simp only [List.map_cons, List.cons.injEq] at e
      obtain ⟨e1, e2, e3⟩ := e
      exact ⟨b :: a :: l, List.Perm.swap a b l, by simp only [List.map_cons, e1, e2, e3]⟩
  | trans h1 h2 ih1 ih2 =>
    intro l e
    obtain ⟨l2, p2, e2⟩ := ih2 l e
    obtain ⟨l1, p1, e1⟩ := ih1 l2 e2.symm
    exact ⟨l1, p1.trans p2, e1⟩
theorem range_wAt (ws : List Int) : (List.range ws.length).map (wAt ws) = ws := by
  apply List.ext_getElem
  · simp
  · intro i h1 h2
    rw [List.getElem_map, List.getElem_range, wAt, getD_lt h2]
/-- a completion, as blocks -/
theorem blocks_of_can {ws T : List Int} : ∀ {rem : List Nat} {bs : List (List Nat)}, Can T (rem.map (wAt ws)) (loads ws bs) → ∃ bs', bs'.flatten.Perm (bs.flatten ++ rem) ∧ Fit (loads ws bs') T
  | [], bs, h => ⟨bs, by simp, h⟩
  | s :: rem, bs, h => by
    rcases h with h | ⟨x, R, p, h⟩
    · have e : wAt ws s :: loads ws bs = loads ws ([s] :: bs) := by simp [loads, sumW]
      rw [e] at h
      obtain ⟨bs', p, f⟩ := blocks_of_can h
      refine ⟨bs', p.trans ?_, f⟩
      rw [List.flatten_cons]
      exact (List.perm_append_comm (l₁ := [s]) (l₂ := bs.flatten)).append_right rem |>.trans (by simp)
    · obtain ⟨bs2, p2, e2⟩ := perm_map_inv p.symm bs rfl
      cases bs2 with
      | nil => simp at e2
      | cons b bs1 =>
        rw [List.map_cons] at e2
        injection e2 with e3 e4
        have e : (x + wAt ws s) :: R = loads ws ((b ++ [s]) :: bs1) := by
          rw [loads, List.map_cons, sumW_app, e3, e4]
        rw [e] at h
        obtain ⟨bs', p', f⟩ := blocks_of_can h
        refine ⟨bs', p'.trans ?_, f⟩
        have pf := p2.flatten
        rw [List.flatten_cons] at pf ⊢
        refine List.Perm.trans ?_ ((pf.append_right (s :: rem)))
        rw [List.append_assoc, List.append_assoc, List.append_assoc]
        refine List.Perm.append_left b ?_
        rw [← List.append_assoc]
        exact (List.perm_append_comm.append_right rem).trans (by simp)
theorem sort_blocks (ws : List Int) (bs : List (List Nat)) : ∃ bs' : List (List Nat), bs'.Perm bs ∧ (loads ws bs').Pairwise (· ≥ ·) := by
  refine ⟨bs.mergeSort fun a b => decide (sumW ws b ≤ sumW ws a), List.mergeSort_perm _ _, ?_⟩
  rw [loads, List.pairwise_map]
  have := List.pairwise_mergeSort (le := fun a b : List Nat => decide (sumW ws b ≤ sumW ws a)) (fun a b c h1 h2 => by
    simp only [decide_eq_true_eq] at *
    omega) (fun a b => by
    simp only [Bool.or_eq_true, decide_eq_true_eq]
    omega) bs
  exact this.imp fun h => of_decide_eq_true h
def PackR (ws rooms : List Int) : Prop := ∃ fs, Packs ws rooms fs
theorem sort_rooms (rooms : List Int) : ∃ ord : List Nat, ord.Perm (List.range rooms.length) ∧ ord.Pairwise fun a b => -(wAt rooms a) ≤ -(wAt rooms b) := by
  refine ⟨(List.range rooms.length).mergeSort fun a b => decide (-(wAt rooms a) ≤ -(wAt rooms b)), List.mergeSort_perm _ _, ?_⟩
  have := List.pairwise_mergeSort (le := fun a b : Nat => decide (-(wAt rooms a) ≤ -(wAt rooms b))) (fun a b c h1 h2 => by
    simp only [decide_eq_true_eq] at *
    omega) (fun a b => by
    simp only [Bool.or_eq_true, decide_eq_true_eq]
    omega) (List.range rooms.length)
  exact this.imp fun h => of_decide_eq_true h
/-- the seats in whatever order can be completed to what fits the sorted rooms, if and only if there is a packing -/
theorem can_iff {ws rooms T some : List Int} (h0 : ∀ r ∈ rooms, 0 ≤ r) (hT : T.Perm rooms) (hTs : T.Pairwise (· ≥ ·)) (hs : some.Perm ws) : Can T some [] ↔ PackR ws rooms := by
  obtain ⟨ord, po, eo⟩ := perm_map_inv hs (List.range ws.length) (range_wAt ws).symm
  rw [← eo]
  constructor
  · intro h
    obtain ⟨bs, pb, f⟩ := blocks_of_can (bs := []) h
    obtain ⟨bs', p', hs'⟩ := sort_blocks ws bs
    obtain ⟨ordR, pR, sR⟩ := sort_rooms rooms
    have f' : Fit (loads ws bs') T := fit_perm (p'.map _).symm f
    exact ⟨_, packs_of po pR sR hT hTs h0 (p'.flatten.trans (by simpa using pb)) (fits_of_fit hs' hTs f')⟩
  · rintro ⟨fs, p⟩
    exact can_of_packs po hT p
theorem packR_perm {ws rooms ws' rooms' : List Int} (h0 : ∀ r ∈ rooms, 0 ≤ r) (hr : rooms'.Perm rooms) (hw : ws'.Perm ws) : PackR ws' rooms' ↔ PackR ws rooms := by
  have hT := List.mergeSort_perm rooms fun a b : Int => decide (b ≤ a)
  have hs := List.pairwise_mergeSort (le := fun a b : Int => decide (b ≤ a)) (fun a b c h1 h2 => by
    simp only [decide_eq_true_eq] at *
    omega) (fun a b => by
    simp only [Bool.or_eq_true, decide_eq_true_eq]
    omega) rooms
  have hs' : (rooms.mergeSort fun a b : Int => decide (b ≤ a)).Pairwise (· ≥ ·) := hs.imp fun h => of_decide_eq_true h
  rw [← can_iff h0 hT hs' (List.Perm.refl ws), ← can_iff (fun r h => h0 r (hr.mem_iff.mp h)) (hT.trans hr.symm) hs' hw.symm]
/-! ### what forbids a packing -/
theorem packs_sum {ws rooms : List Int} {fs : List Nat} (p : Packs ws rooms fs) : ws.sum ≤ rooms.sum := by
  have key : ∀ (l : List Nat) (m : Nat), (∀ s ∈ l, fs.getD s 0 < m) → (l.map (wAt ws)).sum = ((List.range m).map fun j => sumAt ws (fun s => fs.getD s 0) l j).sum := by
    intro l m h
    induction l with
    | nil =>
      simp only [List.map_nil, List.sum_nil, sumAt, List.filter_nil]
      clear h
      induction m with
      | zero => rfl
      | succ m ih => rw [List.range_succ, List.map_append, List.sum_append, ← ih]; simp
    | cons s l ih =>
      have hs := h s (by simp)
      have ih' := ih fun t ht => h t (by simp [ht])
      have e : ∀ j, sumAt ws (fun s => fs.getD s 0) (s :: l) j = (if fs.getD s 0 = j then wAt ws s else 0) + sumAt ws (fun s => fs.getD s 0) l j := fun j => by
        rw [sumAt, sumAt, List.filter_cons]
        by_cases q : fs.getD s 0 = j
        · rw [if_pos (decide_eq_true q), if_pos q, List.map_cons, List.sum_cons]
        · rw [if_neg (by simpa using q), if_neg q, Int.zero_add]
      have e2 : ∀ k, ((List.range k).map fun j => sumAt ws (fun s => fs.getD s 0) (s :: l) j).sum = (if fs.getD s 0 < k then wAt ws s else 0) + ((List.range k).map fun j => sumAt ws (fun s => fs.getD s 0) l j).sum := by
        intro k
        induction k with
        | zero => simp
        | succ k ihk =>
          rw [List.range_succ, List.map_append, List.map_append, List.sum_append, List.sum_append, ihk]
          simp only [List.map_cons, List.map_nil, List.sum_cons, List.sum_nil, e]
          split <;> split <;> split <;> omega
      rw [e2, if_pos hs, List.map_cons, List.sum_cons, ih']
  have h1 := key (List.range ws.length) rooms.length (fun s hs => by
    have hs := List.mem_range.mp hs
    have h1 : s < fs.length := by rw [p.len]; exact hs
    exact p.lt _ (by rw [getD_lt h1]; exact List.getElem_mem h1))
  rw [range_wAt] at h1
  rw [h1]
  have h2 : ∀ k, k ≤ rooms.length → ((List.range k).map fun j => sumAt ws (fun s => fs.getD s 0) (List.range ws.length) j).sum ≤ (rooms.take k).sum := by
    intro k hk
    induction k with
    | zero => simp
    | succ k ih =>
      have h3 := ih (by omega)
      have h4 := p.fit k (by omega)
      rw [getD_lt (by omega)] at h4
      rw [List.range_succ, List.map_append, List.sum_append, List.take_succ_eq_append_getElem (by omega), List.sum_append]
      simp only [List.map_cons, List.map_nil, List.sum_cons, List.sum_nil]
      omega
  have := h2 rooms.length (Nat.le_refl _)
  rwa [List.take_length] at this
theorem packs_each {ws rooms : List Int} {fs : List Nat} (h0 : ∀ w ∈ ws, 0 ≤ w) (p : Packs ws rooms fs) : ∀ w ∈ ws, ∃ r ∈ rooms, w ≤ r := by
  intro w hw
  obtain ⟨s, hs, e⟩ := List.mem_iff_getElem.mp hw
  have h1 : s < fs.length := by rw [p.len]; exact hs
  have hj := p.lt _ (List.getElem_mem h1)
  refine ⟨rooms[fs[s]], List.getElem_mem hj, ?_⟩
  have h2 := p.fit fs[s] hj
  rw [getD_lt hj] at h2
  have h3 : wAt ws s ≤ sumAt ws (fun s => fs.getD s 0) (List.range ws.length) fs[s] := by
    rw [sumAt]
    have : (([s].filter fun t => decide (fs.getD t 0 = fs[s])).map (wAt ws)).sum ≤ (((List.range ws.length).filter fun t => decide (fs.getD t 0 = fs[s])).map (wAt ws)).sum := by
      have hm : s ∈ List.range ws.length := List.mem_range.mpr hs
      obtain ⟨a, b, e2⟩ := List.append_of_mem hm
      rw [e2, List.filter_append, List.filter_cons, List.map_append, List.sum_append]
      have n1 := sums_le (p := fun _ => false) (q := fun t => decide (fs.getD t 0 = fs[s])) (w := wAt ws) a (fun _ _ h => by simp at h) (fun k _ => wAt_nn h0 k)
      have n2 := sums_le (p := fun _ => false) (q := fun t => decide (fs.getD t 0 = fs[s])) (w := wAt ws) b (fun _ _ h => by simp at h) (fun k _ => wAt_nn h0 k)
      have hf : ∀ l : List Nat, (l.filter fun _ => false) = [] := fun l => List.filter_eq_nil_iff.mpr fun _ _ => by simp
      rw [hf, List.map_nil, List.sum_nil] at n1 n2
      have e3 : decide (fs.getD s 0 = fs[s]) = true := decide_eq_true (getD_lt h1 0)
      rw [if_pos e3, List.filter_cons, if_pos e3]
      simp only [List.filter_nil, List.map_cons, List.map_nil, List.sum_cons, List.sum_nil]
      omega
    have e3 : decide (fs.getD s 0 = fs[s]) = true := decide_eq_true (getD_lt h1 0)
    rw [List.filter_cons, if_pos e3] at this
    simpa using this
  rw [wAt, getD_lt hs, e] at h3
  omega
/-! ### levels -/
theorem fit_of_fits : ∀ {L T : List Int}, fitsB L T = true → Fit L T
  | [], _, _ => fun c => Nat.zero_le _
  | x :: L, [], h => by simp [fitsB] at h
  | x :: L, t :: T, h => fun c => by
    simp only [fitsB, List.length_cons, List.zip_cons_cons, List.map_cons, List.all_cons, Bool.and_eq_true, decide_eq_true_eq, id] at h
    have ih := fit_of_fits (L := L) (T := T) (by
      rw [fitsB, Bool.and_eq_true, decide_eq_true_eq]
      exact ⟨by omega, h.2.2⟩) c
    rw [List.countP_cons, List.countP_cons]
    by_cases h1 : c < x
    · have h2 : c < t := by omega
      simp only [h1, h2, decide_true, if_true]
      omega
    · simp only [h1, decide_false]
      have e : (if false = true then 1 else 0) = 0 := rfl
      omega
/-- one comes from load by one seat of weight w -/
def Next (load : List Int) (w : Int) (one : List Int) : Prop := one.Pairwise (· ≥ ·) ∧ (one.Perm (w :: load) ∨ ∃ a, ∃ h : a < load.length, one.Perm (load.set a (load[a] + w)))
theorem can_next {T rem load : List Int} {w : Int} (h : Can T (w :: rem) load) : ∃ one, Next load w one ∧ Can T rem one := by
  have srt : ∀ l : List Int, ∃ l' : List Int, l'.Perm l ∧ l'.Pairwise (· ≥ ·) := fun l => by
    refine ⟨l.mergeSort fun a b => decide (b ≤ a), List.mergeSort_perm _ _, ?_⟩
    have hs := List.pairwise_mergeSort (le := fun a b : Int => decide (b ≤ a)) (fun a b c h1 h2 => by
      simp only [decide_eq_true_eq] at *
      omega) (fun a b => by
      simp only [Bool.or_eq_true, decide_eq_true_eq]
      omega) l
    exact hs.imp fun h => of_decide_eq_true h
  rcases h with h | ⟨x, R, p, h⟩
  · obtain ⟨one, p1, s1⟩ := srt (w :: load)
    exact ⟨one, ⟨s1, .inl p1⟩, can_perm p1.symm h⟩
  · have hx : x ∈ load := p.mem_iff.mpr (by simp)
    obtain ⟨a, ha, e⟩ := List.mem_iff_getElem.mp hx
    have split : load = load.take a ++ load[a] :: load.drop (a + 1) := by rw [List.getElem_cons_drop, List.take_append_drop]
    have pR : R.Perm (load.take a ++ load.drop (a + 1)) := by
      have : (x :: (load.take a ++ load.drop (a + 1))).Perm (x :: R) := by
        refine List.Perm.trans ?_ p
        conv => rhs; rw [split, e]
        exact List.perm_middle.symm
      exact this.cons_inv.symm
    obtain ⟨one, p1, s1⟩ := srt (load.set a (load[a] + w))
    refine ⟨one, ⟨s1, .inr ⟨a, ha, p1⟩⟩, can_perm ?_ h⟩
    refine List.Perm.trans ?_ p1.symm
    rw [List.set_eq_take_append_cons_drop, if_pos ha, e]
    exact (pR.cons _).trans List.perm_middle.symm
theorem can_prev {T rem load one : List Int} {w : Int} (n : Next load w one) (h : Can T rem one) : Can T (w :: rem) load := by
  rcases n.2 with p | ⟨a, ha, p⟩
  · exact .inl (can_perm p h)
  · refine .inr ⟨load[a], load.take a ++ load.drop (a + 1), ?_, can_perm (p.trans ?_) h⟩
    · have split : load = load.take a ++ load[a] :: load.drop (a + 1) := by rw [List.getElem_cons_drop, List.take_append_drop]
      conv => lhs; rw [split]
      exact List.perm_middle
    · rw [List.set_eq_take_append_cons_drop, if_pos ha]
      exact List.perm_middle
/-- tab is the table of levels for the weights ws under the tops T -/
structure TabOk (ws T : List Int) (tab : List (List (List Int))) : Prop where
  len : tab.length = ws.length + 1
  zero : tab[0]? = some [[]]
  next : ∀ i, i < ws.length → ∀ one, one ∈ tab.getD (i + 1) [] ↔ (∃ load ∈ tab.getD i [], Next load (wAt ws i) one) ∧ fitsB one T = true
  nd : ∀ lv ∈ tab, lv.Nodup
  sm : ∀ lv ∈ tab, lv.length ≤ 100000
theorem tab_can {ws T : List Int} {tab : List (List (List Int))} (hT : T.Pairwise (· ≥ ·)) (h0 : ∀ w ∈ ws, 0 ≤ w) (t : TabOk ws T tab) : ∀ i, i ≤ ws.length → (Can T ws [] ↔ ∃ load ∈ tab.getD i [], Can T (ws.drop i) load) := by
  intro i
  induction i with
  | zero =>
    intro _
    have e : tab.getD 0 [] = [[]] := by rw [List.getD_eq_getElem?_getD, t.zero]; rfl
    rw [e]
    simp
  | succ i ih =>
    intro hi
    have hi' : i < ws.length := by omega
    have hd : ws.drop i = wAt ws i :: ws.drop (i + 1) := by rw [wAt, getD_lt hi', List.getElem_cons_drop]
    rw [ih (by omega), hd]
    constructor
    · rintro ⟨load, hl, hc⟩
      obtain ⟨one, n, hc⟩ := can_next hc
      have hf : fitsB one T = true := fits_of_fit n.1 hT (fit_of_can (fun w hw => h0 w (List.mem_of_mem_drop hw)) hc)
      exact ⟨one, (t.next i hi' one).mpr ⟨⟨load, hl, n⟩, hf⟩, hc⟩
    · rintro ⟨one, ho, hc⟩
      obtain ⟨⟨load, hl, n⟩, hf⟩ := (t.next i hi' one).mp ho
      exact ⟨load, hl, can_prev n hc⟩
theorem tab_last {ws T : List Int} {tab : List (List (List Int))} (hT : T.Pairwise (· ≥ ·)) (h0 : ∀ w ∈ ws, 0 ≤ w) (hn : 1 ≤ ws.length) (t : TabOk ws T tab) : Can T ws [] ↔ tab.getD ws.length [] ≠ [] := by
  rw [tab_can hT h0 t ws.length (Nat.le_refl _), List.drop_length]
  constructor
  · rintro ⟨load, hl, _⟩ e
    rw [e] at hl
    cases hl
  · intro h
    obtain ⟨load, hl⟩ := List.exists_mem_of_ne_nil _ h
    have e : ws.length = (ws.length - 1) + 1 := by omega
    have hl' := hl
    rw [e] at hl'
    exact ⟨load, hl, fit_of_fits ((t.next (ws.length - 1) (by omega) load).mp hl').2⟩
end PD
set_option Elab.async false
set_option linter.all false
set_option maxRecDepth 100000
set_option maxHeartbeats 4000000
/-! Packings without the seats' places: loads, levels of loads, the first fit. -/
namespace PD
open PySem PySem.Spec PyProof.Rows L2
def lV (lv : List (List Int)) : D := .lst (lv.map tI)
def c_next_loads : Con := fun ds κ R => ∃ (load : List Int) (w : Int), ds = [tI load, .int w] ∧ load.length ≤ 100 ∧ ∀ ones : List (List Int), (∀ one, one ∈ ones ↔ Next load w one) → ones.length = load.length + 1 → R (lV ones) κ
def c_first_fit : Con := fun ds κ R => ∃ ws rooms : List Int, ds = [lN ws, lN rooms] ∧ rooms.length ≤ 1000 ∧ (∀ r ∈ rooms, 0 ≤ r) ∧ (PackR ws rooms → R (.bl true) κ) ∧ R (.bl false) κ
abbrev N_next_loads : List Str := ["load", "weight", "some", "at", "one"]
abbrev P_next_loads : List Str := ["load", "weight"]
@[reducible] def t_next_loads : AS :=
  (aSeq (aAsg (aCell (aLst (aCons (aOp dAdd (aVar 0) (aTup (aCons (aVar 1) aNil))) aNil))) (aName 2))
  (aSeq (aFor (aRng1 (aCons (aCB dLen (aCons (aVar 0) aNil)) aNil)) (aName 3)
  (aDrop (aApp (aVar 2) (aOp dAdd (aOp dAdd (aSl (aVar 0) aNoPart (aPart (aVar 3))) (aTup (aCons (aOp dAdd (aOp dIx (aVar 0) (aVar 3)) (aVar 1)) aNil))) (aSl (aVar 0) (aPart (aOp dAdd (aVar 3) (aC (.int 1)))) aNoPart)))))
  (aFrzV 2 (aRet (aData (aComp (aIt (aVar 2)) (aName 4) aYes (aCB dTuple (aCons (aSortTR (aVar 4)) aNil)) [4]))))))
abbrev N_first_fit : List Str := ["weights", "rooms", "left", "weight", "places", "index", "room"]
abbrev P_first_fit : List Str := ["weights", "rooms"]
@[reducible] def t_first_fit : AS :=
  (aSeq (aAsg (aCell (aList (aVar 1))) (aName 2))
  (aSeq (aFor (aIt (aVar 0)) (aName 3)
  (aSeq (aAsg (aData (aCompP (aEnumC (aCons (aVar 2) aNil)) (aGTup 2 (aGCons (aName 5) (aGCons (aName 6) aGNil))) (aTest (aOp dGe (aVar 6) (aVar 3))) (aVar 5) [5, 6])) (aName 4))
  (aSeq (aIfS (aTest (aOp dEq (aVar 4) (aData (aLst aNil)))) (aRet (aC (.bl false))) aNext)
  (aAugS iSub (aVar 2) (aOp dIx (aVar 4) (aC (.int 0))) (aVar 3)))))
  (aFrzV 2 (aRet (aC (.bl true))))))
theorem l_next_loads : ∀ ds κ R, c_next_loads ds κ R → ds.length = P_next_loads.length := by
  rintro ds κ R ⟨_, _, rfl, _⟩
  rfl
theorem l_first_fit : ∀ ds κ R, c_first_fit ds κ R → ds.length = P_first_fit.length := by
  rintro ds κ R ⟨_, _, rfl, _⟩
  rfl
def rawN (load : List Int) (w : Int) (n : Nat) : List (List Int) := (load ++ [w]) :: (List.range n).map fun a => load.set a (load.getD a 0 + w)
theorem b_next_loads : Body N_next_loads t_next_loads c_next_loads := by
  rintro ds κ R co ⟨load, w, rfl, hn, h⟩
  have e0 : dAdd (tI load) (D.tup [D.int w]) = fun κ R => load.length + 1 ≤ 16777216 ∧ R (tI (load ++ [w])) κ := by
    funext κ R
    rw [tI, eq_iff_iff, e_addT]
    simp [tI]
  simp [-Bool.exists_bool, start, List.replicate, e0]
  refine ⟨by omega, by omega, ?_⟩
  refine loop_rng (fun n ρ κ' => κ' = κ ++ [some (.lst ((rawN load w n).map tI))] ∧ ∃ x y, ρ = [some (tI load), some (.int w), some (.cell κ.length), x, y]) ⟨rfl, _, _, rfl⟩ ?_ ?_
  · rintro a ρ κ' ha ⟨rfl, x, y, rfl⟩ Z hZ
    have e1 : cutD (load.map D.int) none (some (a : Int)) = (load.take a).map D.int := by rw [cut_hi, List.map_take]
    have e2 : cutD (load.map D.int) (some ((a : Int) + 1)) none = (load.drop (a + 1)).map D.int := by
      rw [show (a : Int) + 1 = ((a + 1 : Nat) : Int) by omega, cut_lo, List.map_drop]
    have l1 : (load.take a).length = a := by rw [List.length_take]; omega
    have l2 : (load.drop (a + 1)).length = load.length - (a + 1) := List.length_drop
    simp [-Bool.exists_bool, -List.map_take, -List.map_drop, own_get rfl, own_set rfl, e1, e2]
    refine ⟨_, atI_map ha, ?_⟩
    simp [-Bool.exists_bool, -List.map_take, -List.map_drop, own_get rfl, own_set rfl]
    refine ⟨by omega, by omega, by rw [rawN, List.length_cons, List.length_map, List.length_range]; omega, ?_⟩
    refine hZ _ _ ⟨?_, _, _, rfl⟩
    have e3 : rawN load w (a + 1) = rawN load w a ++ [load.set a (load[a] + w)] := by
      rw [rawN, rawN, List.range_succ, List.map_append, ← List.cons_append]
      simp only [List.map_cons, List.map_nil, getD_lt ha]
    have e4 : D.tup ((load.take a).map D.int ++ D.int (load[a] + w) :: (load.drop (a + 1)).map D.int) = tI (load.set a (load[a] + w)) := by
      rw [tI, List.set_eq_take_append_cons_drop, if_pos ha, List.map_append, List.map_cons]
    rw [e3, List.map_append, List.map_cons, List.map_nil, ← e4]
  · rintro ρ κ' ⟨rfl, x, y, rfl⟩
    simp [-Bool.exists_bool, own_get rfl, own_set rfl]
    have hraw : (rawN load w load.length).length = load.length + 1 := by rw [rawN, List.length_cons, List.length_map, List.length_range]
    refine comp_st (a := tI) (b := tI) (fun r one => one.Perm r ∧ one.Pairwise (· ≥ ·)) (fun κ' => κ' = κ ++ [none]) rfl (by omega) (fun r κ' hr e Z hZ => ?_) fun ones κ' hl hP e => ?_
    · subst e
      have hrl : r.length ≤ load.length + 1 := by
        rw [rawN] at hr
        rcases List.mem_cons.mp hr with rfl | hr
        · simp
        · obtain ⟨a, _, rfl⟩ := List.mem_map.mp hr
          rw [List.length_set]
          omega
      simp [-Bool.exists_bool]
      refine ⟨by omega, fun one p ho => ?_⟩
      exact hZ one _ ⟨p, ho⟩ rfl
    · subst e
      have hmem : ∀ one, one ∈ ones ↔ Next load w one := by
        intro one
        constructor
        · intro hm
          obtain ⟨i, hi, e⟩ := List.getElem_of_mem hm
          obtain ⟨p, s⟩ := hP i _ _ (List.getElem?_eq_getElem (by omega)) (List.getElem?_eq_getElem hi)
          rw [e] at p s
          refine ⟨s, ?_⟩
          have hr : (rawN load w load.length)[i] ∈ rawN load w load.length := List.getElem_mem (by omega)
          generalize (rawN load w load.length)[i] = r at p hr
          rw [rawN] at hr
          rcases List.mem_cons.mp hr with rfl | hr
          · exact .inl (p.trans List.perm_append_comm)
          · obtain ⟨a, ha, rfl⟩ := List.mem_map.mp hr
            have ha := List.mem_range.mp ha
            rw [getD_lt ha] at p
            exact .inr ⟨a, ha, p⟩
        · intro n
          have key : ∃ r ∈ rawN load w load.length, one.Perm r := by
            rcases n.2 with p | ⟨a, ha, p⟩
            · exact ⟨load ++ [w], by rw [rawN]; simp, p.trans (List.perm_append_comm (l₁ := [w]))⟩
            · refine ⟨load.set a (load[a] + w), ?_, p⟩
              rw [rawN]
              refine List.mem_cons_of_mem _ (List.mem_map.mpr ⟨a, List.mem_range.mpr ha, by rw [getD_lt ha]⟩)
          obtain ⟨r, hr, p⟩ := key
          obtain ⟨i, hi, e⟩ := List.getElem_of_mem hr
          obtain ⟨p2, s2⟩ := hP i _ _ (List.getElem?_eq_getElem hi) (List.getElem?_eq_getElem (by omega))
          have : one = ones[i] := falling_one (p.trans (by rw [← e]; exact p2.symm)) n.1 s2
          rw [this]
          exact List.getElem_mem _
      refine fin_app co ?_ (h ones hmem (by omega))
      rw [blw]
      exact blws_map _ (blw_tI _) ones
theorem b_first_fit : Body N_first_fit t_first_fit c_first_fit := by
  rintro ds κ R co ⟨ws, rooms, rfl, hn, h0, h1, h2⟩
  simp [-Bool.exists_bool, start, List.replicate]
  refine loop_map (fun todo ρ κ' => ∃ (left : List Int) (fs : List Nat) (done : List Int) (x y : Option D), κ' = κ ++ [some (.lst (left.map D.int))] ∧ done ++ todo = ws ∧ fs.length = done.length ∧ (∀ j ∈ fs, j < rooms.length) ∧ left.length = rooms.length ∧
    (∀ j, j < rooms.length → left.getD j 0 + sumZ (fs.zip done) j = rooms.getD j 0 ∧ 0 ≤ left.getD j 0) ∧ ρ = [some (lN ws), some (lN rooms), some (.cell κ.length), x, y, none, none])
    ⟨rooms, [], [], _, _, rfl, rfl, rfl, (fun _ h => nomatch h), rfl, fun j hj => ⟨by simp [sumZ], by rw [getD_lt hj]; exact h0 _ (List.getElem_mem hj)⟩, rfl⟩ ?_ ?_
  · rintro w todo ρ κ' ⟨left, fs, done, x, y, rfl, hd, hf, hj, hl, hI, rfl⟩ Z hZ
    simp [-Bool.exists_bool]
    rw [enumD_map (0 : Int)]
    refine compP_filt (p := fun i => decide (w ≤ left.getD i 0)) (b := fun i => D.int (i : Nat)) (by simp; omega) (fun i hi W Y w1 w2 => ?_) ?_
    · simp [-Bool.exists_bool, -List.getD_eq_getElem?_getD]
      split
      · rename_i q
        exact w1 (decide_eq_true q)
      · rename_i q
        exact w2 (decide_eq_false q)
    · have eX : D.lst (((List.range left.length).filter fun i => decide (w ≤ left.getD i 0)).map fun i => D.int (i : Nat)) = lX ((List.range left.length).filter fun i => decide (w ≤ left.getD i 0)) := rfl
      simp only [eX]
      cases hp : (List.range left.length).filter fun i => decide (w ≤ left.getD i 0) with
      | nil =>
        simp [-Bool.exists_bool]
        exact fin_app co rfl h2
      | cons i0 rest =>
        have hm : i0 ∈ (List.range left.length).filter fun i => decide (w ≤ left.getD i 0) := by rw [hp]; simp
        have hi0 := List.mem_range.mp (List.mem_filter.mp hm).1
        have hw0 : w ≤ left.getD i0 0 := of_decide_eq_true (List.mem_filter.mp hm).2
        simp [-Bool.exists_bool, -List.getD_eq_getElem?_getD]
        refine ⟨i0, ixN_lt hi0, D.int left[i0], ⟨left[i0], List.getElem?_eq_getElem hi0, rfl⟩, ?_⟩
        refine ⟨trivial, left.map D.int, own_get rfl, ixN_lt (by simpa using hi0), ?_⟩
        rw [own_set rfl]
        have hi0r : i0 < rooms.length := by omega
        have hz := hZ [some (lN ws), some (lN rooms), some (.cell κ.length), some (.int w), some (lX (i0 :: rest)), none, none] (κ ++ [some (.lst ((left.set i0 (left[i0] - w)).map D.int))])
          ⟨left.set i0 (left[i0] - w), fs ++ [i0], done ++ [w], _, _, rfl, by rw [List.append_assoc]; exact hd, by simp [hf], fun j hm => by
            rcases List.mem_append.mp hm with hm | hm
            · exact hj j hm
            · rw [List.mem_singleton.mp hm]
              exact hi0r, by rw [List.length_set]; exact hl, fun j hjr => by
            obtain ⟨q1, q2⟩ := hI j hjr
            rw [List.zip_append hf, sumZ_app]
            have es : sumZ ([i0].zip [w]) j = if i0 = j then w else 0 := by
              rw [List.zip_cons_cons, sumZ_cons]
              simp [sumZ]
            rw [es]
            by_cases q : i0 = j
            · subst q
              rw [getD_lt hi0] at q1 q2 hw0
              rw [if_pos rfl, List.getD_eq_getElem?_getD (l := left.set i0 _), List.getElem?_set_self hi0, Option.getD_some]
              omega
            · rw [if_neg q, List.getD_eq_getElem?_getD (l := left.set i0 _), List.getElem?_set_ne q, ← List.getD_eq_getElem?_getD]
              omega, rfl⟩
        rw [List.map_set] at hz
        exact hz
  · rintro ρ κ' ⟨left, fs, done, x, y, rfl, hd, hf, hj, hl, hI, rfl⟩
    simp [-Bool.exists_bool, own_get rfl, own_set rfl]
    rw [List.append_nil] at hd
    subst hd
    refine fin_app co rfl (h1 ⟨fs, hf, hj, fun j hjr => ?_⟩)
    rw [sumAt_zip hf]
    have := hI j hjr
    omega
end PD
set_option Elab.async false
set_option linter.all false
set_option maxRecDepth 100000
set_option maxHeartbeats 4000000
/-! Levels of loads; whether seats can be packed. -/
namespace PD
open PySem PySem.Spec PyProof.Rows L2
def c_load_levels : Con := fun ds κ R => ∃ ws rooms : List Int, ds = [lN ws, lN rooms] ∧ ws.length ≤ 7 ∧ ∀ T tab, T.Perm rooms → T.Pairwise (· ≥ ·) → TabOk ws T tab → R (.lst (tab.map lV)) κ
def c_can_pack : Con := fun ds κ R => ∃ ws rooms : List Int, ds = [lN ws, lN rooms] ∧ 1 ≤ ws.length ∧ ws.length ≤ 7 ∧ (∀ w ∈ ws, 0 ≤ w) ∧ rooms.length ≤ 1000 ∧ (∀ r ∈ rooms, 0 ≤ r) ∧ ∀ b : Bool, (b = true ↔ PackR ws rooms) → R (.bl b) κ
abbrev N_load_levels : List Str := ["weights", "rooms", "tops", "levels", "weight", "level", "load", "one"]
abbrev P_load_levels : List Str := ["weights", "rooms"]
@[reducible] def t_load_levels : AS :=
  (aSeq (aAsg (aSortR (aVar 1)) (aName 2))
  (aSeq (aAsg (aCell (aLst (aCons (aData (aLst (aCons (aTup aNil) aNil))) aNil))) (aName 3))
  (aSeq (aFor (aIt (aVar 0)) (aName 4)
  (aSeq (aAsg aDicNew (aName 5))
  (aSeq (aFor (aIt (aOp dIx (aVar 3) (aUn dNeg (aC (.int 1))))) (aName 6)
  (aFor (aIt (aCB c_next_loads (aCons (aVar 6) (aCons (aVar 4) aNil)))) (aName 7)
  (aIfS (aAndT (aTest (aOp (dInN not) (aVar 7) (aVar 5))) (aTest (aCB c_fits (aCons (aVar 7) (aCons (aVar 2) aNil))))) (aAsg (aC (.bl true)) (aSubD (aVar 5) (aVar 7))) aNext)))
  (aDrop (aApp (aVar 3) (aCB dSortD (aCons (aData (aListN (aVar 5))) aNil)))))))
  (aFrzV 3 (aRet (aVar 3))))))
abbrev N_can_pack : List Str := ["weights", "rooms", "some", "tops"]
abbrev P_can_pack : List Str := ["weights", "rooms"]
@[reducible] def t_can_pack : AS :=
  (aSeq (aPar 2 3 (aCons (aSortR (aVar 0)) (aCons (aSortR (aVar 1)) aNil)))
  (aSeq (aIfS (aOrT (aTest (aOp dEq (aVar 3) (aData (aLst aNil)))) (aOrT (aTest (aOp dGt (aOp dIx (aVar 2) (aC (.int 0))) (aOp dIx (aVar 3) (aC (.int 0))))) (aTest (aOp dGt (aCB dSum (aCons (aVar 2) aNil)) (aCB dSum (aCons (aVar 3) aNil)))))) (aRet (aC (.bl false))) aNext)
  (aRet (aOrV (aCB c_first_fit (aCons (aVar 2) (aCons (aVar 3) aNil))) (aOp dNe (aOp dIx (aCB c_load_levels (aCons (aVar 2) (aCons (aVar 3) aNil))) (aUn dNeg (aC (.int 1)))) (aData (aLst aNil)))))))
theorem l_load_levels : ∀ ds κ R, c_load_levels ds κ R → ds.length = P_load_levels.length := by
  rintro ds κ R ⟨_, _, rfl, _⟩
  rfl
theorem l_can_pack : ∀ ds κ R, c_can_pack ds κ R → ds.length = P_can_pack.length := by
  rintro ds κ R ⟨_, _, rfl, _⟩
  rfl
/-! ### a level as a dict -/
def levKv (ms : List (List Int)) : List (D × D) := ms.map fun p => (tI p, .bl true)
theorem nk_tI (L : List Int) : nkOf (tI L) = some (.tup (L.map NestedKey.num)) := by
  rw [tI, nkOf, nkOfs_ints]
  rfl
theorem nk_tI_inj {p q : List Int} : nkOf (tI p) = nkOf (tI q) ↔ p = q := by
  constructor
  · intro h
    rw [nk_tI, nk_tI] at h
    injection h with h
    injection h with h
    exact nums_inj h
  · intro h
    rw [h]
theorem hasK_lev (ms : List (List Int)) (p : List Int) : hasK (levKv ms) (tI p) = decide (p ∈ ms) := by
  rw [hasK, levKv, List.any_map, Bool.eq_iff_iff, List.any_eq_true, decide_eq_true_eq]
  constructor
  · rintro ⟨q, hq, e⟩
    have := nk_tI_inj.mp (of_decide_eq_true e)
    rwa [← this]
  · intro h
    exact ⟨p, h, decide_eq_true rfl⟩
theorem put_lev {ms : List (List Int)} {p : List Int} (h : p ∉ ms) : putDic (levKv ms) (tI p) (.bl true) = levKv (ms ++ [p]) := by
  rw [putDic, hasK_lev, if_neg (by simpa using h), levKv, levKv, List.map_append]
  rfl
theorem depth_tI (L : List Int) : (NestedKey.tup (L.map NestedKey.num)).depth ≤ 8 := by
  simp [NestedKey.depth, depthAll_nums]
theorem e_inLev {κ : Cs} {R : D → Cs → Prop} {f : Bool → Bool} {k : Nat} {ms : List (List Int)} {L : List Int} (h : κ[k]? = some (some (.dic (levKv ms)))) (hR : R (.bl (f (decide (L ∈ ms)))) κ) : dInN f (tI L) (.cell k) κ R :=
  ⟨_, _, h, nk_tI L, depth_tI L, by rw [hasK_lev]; exact hR⟩
theorem pdepth_ints : ∀ L : List Int, PyData.depthAll (L.map PyData.int) = 0
  | [] => by simp [PyData.depthAll]
  | n :: b => by rw [List.map_cons, PyData.depthAll, pdepth_ints b]; simp [PyData.depth]
theorem pyOf_tI (L : List Int) : pyOf (tI L) = .tuple (L.map PyData.int) := by
  rw [tI, pyOf, pysOf_eq, List.map_map]
  rfl
theorem plain_tI (L : List Int) : plain (tI L) = true := by rw [tI, plain]; exact plains_ints L
/-- sorted(..) of loads: the same loads -/
theorem use_sortLev {κ : Cs} {R : D → Cs → Prop} {ms : List (List Int)} (hn : ms.length ≤ 100000) (h0 : ∀ L ∈ ms, L ≠ []) (h : ∀ ms', ms'.Perm ms → R (lV ms') κ) : dSortD [.lst (ms.map tI)] κ R := by
  have e0 : pysOf (ms.map tI) = ms.map fun L => PyData.tuple (L.map PyData.int) := by
    rw [pysOf_eq, List.map_map]
    exact List.map_congr_left fun L _ => pyOf_tI L
  refine ⟨ms.map tI, rfl, by rwa [List.length_map], plains_map plain_tI ms, ?_, ?_, ?_, ?_⟩
  · rw [e0]
    exact PySem.W.AllAlike.of fun a b => by rw [PySem.W.alike]; exact PySem.W.alike_ints a b
  · rw [e0]
    refine .inl fun d hd => ?_
    obtain ⟨L, hL, rfl⟩ := List.mem_map.mp hd
    cases L with
    | nil => exact absurd rfl (h0 _ hL)
    | cons x L => exact ⟨_, _, rfl⟩
  · rw [e0]
    intro d hd
    obtain ⟨L, _, rfl⟩ := List.mem_map.mp hd
    rw [PyData.depth, pdepth_ints]
    omega
  · rw [e0, sortBy_map]
    exact h _ (List.mergeSort_perm _ _)
theorem atI_last {xs : List D} (h : 0 < xs.length) : atI xs (-1) = some (xs[xs.length - 1]'(by omega)) := by
  have e : ixN xs.length (-1) = some (xs.length - 1) := by
    unfold ixN
    rw [if_neg (by omega), if_pos (by omega)]
    congr 1
    omega
  show (ixN xs.length (-1)).bind (fun j => xs[j]?) = _
  rw [e]
  exact List.getElem?_eq_getElem (by omega)
theorem e_neV {κ : Cs} {R : D → Cs → Prop} {lv : List (List Int)} (h : R (.bl (!decide (lv = []))) κ) : dNe (lV lv) (.lst []) κ R := by
  refine e_neN (p := lv = []) (nums_rows lv) rfl (Nat.le_trans (dep_rows lv) (by decide)) (by simp [dep, deps]) (fun i z => by cases z) ⟨fun e => ?_, fun e => by rw [e]; rfl⟩ h
  cases lv with
  | nil => rfl
  | cons a l => simp [lV] at e
theorem b_can_pack : Body N_can_pack t_can_pack c_can_pack := by
  rintro ds κ R co ⟨ws, rooms, rfl, hw1, hw7, hw0, hrn, hr0, h⟩
  simp [-Bool.exists_bool, start, List.replicate]
  refine sortRK_ints.mpr fun some ps hs => ?_
  refine sortRK_ints.mpr fun T pT hT => ?_
  have hT' : T.Pairwise (· ≥ ·) := hT
  have hs' : some.Pairwise (· ≥ ·) := hs
  have hsl : some.length = ws.length := ps.length_eq
  have hTl : T.length = rooms.length := pT.length_eq
  have no : ∀ (b : ¬ PackR ws rooms), R (.bl false) κ := fun b => h false ⟨fun z => (by cases z), fun z => absurd z b⟩
  refine e_eqL (b := []) |>.mpr ?_
  refine ⟨_, rfl, ?_⟩
  by_cases q : T = []
  · rw [if_pos (by simp [q])]
    refine .inl (no ?_)
    rintro ⟨fs, p⟩
    have hr : rooms = [] := by
      subst q
      exact pT.symm.eq_nil
    have h1 : 0 < fs.length := by rw [p.len]; omega
    have := p.lt _ (List.getElem_mem h1)
    rw [hr] at this
    simp at this
  rw [if_neg (by simp [q])]
  cases some with
  | nil => simp at hsl; omega
  | cons s0 some =>
    cases T with
    | nil => exact absurd rfl q
    | cons t0 T =>
      refine ⟨_, atI_0, _, atI_0, trivial, ?_⟩
      refine ⟨_, rfl, ?_⟩
      by_cases q1 : t0 < s0
      · rw [if_pos (decide_eq_true q1)]
        refine .inl (no ?_)
        rintro ⟨fs, p⟩
        obtain ⟨r, hr, hle⟩ := packs_each hw0 p s0 (ps.mem_iff.mp (by simp))
        have hr' := pT.mem_iff.mpr hr
        rcases List.mem_cons.mp hr' with rfl | hr'
        · omega
        · have := (List.pairwise_cons.mp hT').1 r hr'
          omega
      rw [if_neg (by simpa using q1)]
      refine e_sum (ns := s0 :: some) ?_
      refine e_sum (ns := t0 :: T) ?_
      refine ⟨trivial, _, rfl, ?_⟩
      have es := perm_sum ps
      have et := perm_sum pT
      by_cases q2 : (t0 :: T).sum < (s0 :: some).sum
      · rw [if_pos (decide_eq_true q2)]
        refine .inl (no ?_)
        rintro ⟨fs, p⟩
        have := packs_sum p
        omega
      rw [if_neg (by simp only [decide_eq_true_eq]; exact q2)]
      have hTn : ∀ r ∈ t0 :: T, 0 ≤ r := fun r hr => hr0 r (pT.mem_iff.mp hr)
      refine ⟨s0 :: some, t0 :: T, rfl, by omega, hTn, fun p => ?_, ?_⟩
      · refine ⟨_, rfl, ?_⟩
        rw [if_pos rfl]
        exact .inl (h true ⟨fun _ => (packR_perm hr0 pT ps).mp p, fun _ => rfl⟩)
      · refine ⟨_, rfl, ?_⟩
        rw [if_neg (by decide)]
        refine ⟨s0 :: some, t0 :: T, rfl, by omega, fun T' tab pT' hT'' tb => ?_⟩
        have hl := tb.len
        have e : atI (tab.map lV) (-1) = Option.some (lV (tab.getD (s0 :: some).length [])) := by
          rw [atI_last (by rw [List.length_map]; omega)]
          congr 1
          rw [List.getElem_map]
          congr 1
          rw [getD_lt (by omega)]
          congr 1
          rw [List.length_map]
          omega
        refine ⟨_, e, e_neV (.inl (h _ ?_))⟩
        have h1 := tab_last hT'' (fun w hw => hw0 w (ps.mem_iff.mp hw)) (by simp) tb
        have h2 := can_iff hr0 (pT'.trans pT) hT'' ps
        rw [← h2, h1]
        simp
def fact : Nat → Nat
  | 0 => 1
  | n + 1 => (n + 1) * fact n
theorem fact_le {n : Nat} (h : n ≤ 7) : fact n ≤ 5040 := by
  have : n = 0 ∨ n = 1 ∨ n = 2 ∨ n = 3 ∨ n = 4 ∨ n = 5 ∨ n = 6 ∨ n = 7 := by omega
  rcases this with rfl | rfl | rfl | rfl | rfl | rfl | rfl | rfl <;> decide
theorem next_len {load one : List Int} {w : Int} (n : Next load w one) : one.length ≤ load.length + 1 ∧ one ≠ [] := by
  rcases n.2 with p | ⟨a, ha, p⟩
  · have e := p.length_eq
    rw [List.length_cons] at e
    exact ⟨by omega, fun z => by rw [z] at e; simp at e⟩
  · have e := p.length_eq
    rw [List.length_set] at e
    exact ⟨by omega, fun z => by rw [z] at e; simp at e; omega⟩
/-- what is known behind the first seats -/
structure LevOk (done T : List Int) (tab : List (List (List Int))) : Prop where
  ok : TabOk done T tab
  big : (tab.getD done.length []).length ≤ fact done.length
  long : ∀ L ∈ tab.getD done.length [], L.length ≤ done.length
theorem lev_start (T : List Int) : LevOk [] T [[[]]] := ⟨⟨rfl, rfl, fun i h => by simp at h, fun lv h => by simp at h; simp [h], fun lv h => by simp at h; simp [h]⟩, by simp [fact], fun L h => by simp at h; simp [h]⟩
theorem lev_step {done T : List Int} {tab : List (List (List Int))} {w : Int} {lv : List (List Int)} (o : LevOk done T tab) (hm : ∀ one, one ∈ lv ↔ (∃ load ∈ tab.getD done.length [], Next load w one) ∧ fitsB one T = true) (hl : lv.length ≤ (tab.getD done.length []).length * (done.length + 1)) (hnd : lv.Nodup) (hsm : lv.length ≤ 100000) : LevOk (done ++ [w]) T (tab ++ [lv]) := by
  have tl := o.ok.len
  have e1 : ∀ i, i < tab.length → (tab ++ [lv]).getD i [] = tab.getD i [] := fun i hi => by
    rw [List.getD_eq_getElem?_getD, List.getElem?_append_left hi, ← List.getD_eq_getElem?_getD]
  have e2 : (tab ++ [lv]).getD (done.length + 1) [] = lv := by
    rw [List.getD_eq_getElem?_getD, List.getElem?_append_right (by omega), tl, Nat.sub_self]
    rfl
  have ew : ∀ i, i < done.length → wAt (done ++ [w]) i = wAt done i := fun i hi => by
    rw [wAt, wAt, List.getD_eq_getElem?_getD, List.getElem?_append_left hi, ← List.getD_eq_getElem?_getD]
  have ew2 : wAt (done ++ [w]) done.length = w := by
    rw [wAt, List.getD_eq_getElem?_getD, List.getElem?_append_right (Nat.le_refl _), Nat.sub_self]
    rfl
  refine ⟨⟨by simp [tl], ?_, fun i hi one => ?_, fun l hl => ?_, fun l hl => ?_⟩, ?_, fun L hL => ?_⟩
  · rw [List.getElem?_append_left (by omega)]
    exact o.ok.zero
  · rw [List.length_append] at hi
    simp only [List.length_cons, List.length_nil] at hi
    by_cases q : i < done.length
    · rw [e1 _ (by omega), e1 _ (by omega), ew i q]
      exact o.ok.next i q one
    · have : i = done.length := by omega
      subst this
      rw [e2, e1 _ (by omega), ew2]
      exact hm one
  · rcases List.mem_append.mp hl with hl | hl
    · exact o.ok.nd l hl
    · rw [List.mem_singleton.mp hl]
      exact hnd
  · rcases List.mem_append.mp hl with hl | hl
    · exact o.ok.sm l hl
    · rw [List.mem_singleton.mp hl]
      exact hsm
  · rw [List.length_append]
    simp only [List.length_cons, List.length_nil]
    rw [e2, fact, Nat.mul_comm]
    exact Nat.le_trans hl (Nat.mul_le_mul_right _ o.big)
  · rw [List.length_append] at hL ⊢
    simp only [List.length_cons, List.length_nil] at hL ⊢
    rw [e2] at hL
    obtain ⟨⟨load, hlo, n⟩, _⟩ := (hm L).mp hL
    have := o.long load hlo
    have := (next_len n).1
    omega
theorem itK_lV {κ : Cs} {R : List D → Cs → Prop} {lv : List (List Int)} (h : R (lv.map tI) κ) : itK (lV lv) κ R := h
theorem b_load_levels : Body N_load_levels t_load_levels c_load_levels := by
  rintro ds κ R co ⟨ws, rooms, rfl, hw, h⟩
  simp [-Bool.exists_bool, start, List.replicate]
  refine sortRK_ints.mpr fun T pT hT => ?_
  rw [show (D.lst (T.map D.int)) = lN T from rfl]
  refine loop_map (fun todo ρ κ' => ∃ (tab : List (List (List Int))) (junk : Cs) (done : List Int) (x y z u : Option D), κ' = κ ++ (some (.lst (tab.map lV)) :: junk) ∧ done ++ todo = ws ∧ LevOk done T tab ∧
    ρ = [some (lN ws), some (lN rooms), some (lN T), some (.cell κ.length), x, y, z, u]) ⟨[[[]]], [], [], _, _, _, _, rfl, rfl, lev_start T, rfl⟩ ?_ ?_
  · rintro w todo ρ κ' ⟨tab, junk, done, x, y, z, u, rfl, hd, lo, rfl⟩ Z hZ
    have tl := lo.ok.len
    have hdl : done.length < ws.length := by rw [← hd, List.length_append, List.length_cons]; omega
    have hfc := fact_le (n := done.length) (by omega)
    have hbig := lo.big
    have g0 : ∀ l : Cs, ((κ ++ (some (Ce.lst (tab.map lV)) :: junk)) ++ l)[κ.length]? = some (some (.lst (tab.map lV))) := fun l => by
      rw [List.append_assoc, get_loc0]
      rfl
    have el : atI (tab.map lV) (-1) = some (lV (tab.getD done.length [])) := by
      rw [atI_last (by rw [List.length_map]; omega)]
      congr 1
      rw [List.getElem_map]
      congr 1
      rw [getD_lt (by omega)]
      congr 1
      rw [List.length_map]
      omega
    simp [-Bool.exists_bool]
    refine ⟨_, (itAt_cell (by rw [get_loc0]; rfl)).trans el, ?_⟩
    have gd : ∀ (c : Option Ce) (ms : List (List Int)), (κ ++ (c :: (junk ++ [some (Ce.dic (levKv ms))])))[κ.length + (junk.length + 1)]? = some (some (.dic (levKv ms))) := fun c ms => by
      rw [get_loc, List.getElem?_cons_succ, own_get rfl]
    have sd : ∀ (c : Option Ce) (ms : List (List Int)) (x : Option Ce), (κ ++ (c :: (junk ++ [some (Ce.dic (levKv ms))]))).set (κ.length + (junk.length + 1)) x = κ ++ (c :: (junk ++ [x])) := fun c ms x => by
      rw [set_loc, List.set_cons_succ, own_set rfl]
    refine itK_lV ?_
    refine loop_map (fun todoL ρ κ' => ∃ (doneL ms : List (List Int)) (x y : Option D), doneL ++ todoL = tab.getD done.length [] ∧ κ' = κ ++ (some (Ce.lst (tab.map lV)) :: (junk ++ [some (Ce.dic (levKv ms))])) ∧
      (∀ one, one ∈ ms ↔ (∃ load ∈ doneL, Next load w one) ∧ fitsB one T = true) ∧ ms.length ≤ doneL.length * (done.length + 1) ∧ ms.Nodup ∧
      ρ = [some (lN ws), some (lN rooms), some (lN T), some (.cell κ.length), some (.int w), some (.cell (κ.length + (junk.length + 1))), x, y]) ⟨[], [], _, _, rfl, rfl, fun one => by simp, by simp, List.nodup_nil, rfl⟩ ?_ ?_
    · rintro load todoL ρ κ' ⟨doneL, ms, x, y, hdL, rfl, hms, hml, hmn, rfl⟩ Z' hZ'
      simp [-Bool.exists_bool]
      have hlo : load ∈ tab.getD done.length [] := by rw [← hdL]; simp
      have hll := lo.long load hlo
      refine ⟨load, w, rfl, by omega, fun ones hones hol => ?_⟩
      refine itK_lV ?_
      refine loop_map (fun todoO ρ κ' => ∃ (doneO ms' : List (List Int)) (y : Option D), doneO ++ todoO = ones ∧ κ' = κ ++ (some (Ce.lst (tab.map lV)) :: (junk ++ [some (Ce.dic (levKv ms'))])) ∧
        (∀ one, one ∈ ms' ↔ one ∈ ms ∨ (one ∈ doneO ∧ fitsB one T = true)) ∧ ms'.length ≤ ms.length + doneO.length ∧ ms'.Nodup ∧
        ρ = [some (lN ws), some (lN rooms), some (lN T), some (.cell κ.length), some (.int w), some (.cell (κ.length + (junk.length + 1))), some (tI load), y]) ⟨[], ms, _, rfl, rfl, fun one => by simp, by simp, hmn, rfl⟩ ?_ ?_
      · rintro one todoO ρ κ' ⟨doneO, ms', y, hdO, rfl, hms', hml', hmn', rfl⟩ Z2 hZ2
        simp [-Bool.exists_bool]
        have hone : one ∈ ones := by rw [← hdO]; simp
        have hn := (hones one).mp hone
        have hnl := (next_len hn).1
        refine e_inLev (gd _ _) ?_
        by_cases q : one ∈ ms'
        · simp [q]
          refine hZ2 _ _ ⟨doneO ++ [one], ms', _, by simp [hdO], rfl, fun o => ?_, by simp; omega, hmn', rfl⟩
          rw [hms']
          simp only [List.mem_append, List.mem_singleton]
          constructor
          · rintro (h | ⟨h1, h2⟩)
            · exact .inl h
            · exact .inr ⟨.inl h1, h2⟩
          · rintro (h | ⟨h1 | rfl, h2⟩)
            · exact .inl h
            · exact .inr ⟨h1, h2⟩
            · exact (hms' _).mp q
        · simp [q]
          refine ⟨one, T, rfl, by omega, ?_⟩
          cases hf : fitsB one T with
          | false =>
            simp
            refine hZ2 _ _ ⟨doneO ++ [one], ms', _, by simp [hdO], rfl, fun o => ?_, by simp; omega, hmn', rfl⟩
            rw [hms']
            simp only [List.mem_append, List.mem_singleton]
            constructor
            · rintro (h | ⟨h1, h2⟩)
              · exact .inl h
              · exact .inr ⟨.inl h1, h2⟩
            · rintro (h | ⟨h1 | rfl, h2⟩)
              · exact .inl h
              · exact .inr ⟨h1, h2⟩
              · rw [hf] at h2
                cases h2
          | true =>
            simp [gd]
            have hdl7 : doneO.length + 1 ≤ ones.length := by rw [← hdO]; simp
            have hdl8 : doneL.length + 1 ≤ (tab.getD done.length []).length := by rw [← hdL]; simp
            have hbm : doneL.length * (done.length + 1) ≤ 5040 * 7 := Nat.mul_le_mul (by omega) (by omega)
            refine ⟨one.map NestedKey.num, nk_tI one, depth_tI one, by rw [levKv, List.length_map]; omega, ?_⟩
            rw [put_lev q]
            refine hZ2 _ _ ⟨doneO ++ [one], ms' ++ [one], _, by simp [hdO], rfl, fun o => ?_, by simp; omega, List.nodup_append.mpr ⟨hmn', List.nodup_cons.mpr ⟨by simp, List.nodup_nil⟩, fun a ha b hb e => q (by rw [List.mem_singleton.mp hb] at e; exact e ▸ ha)⟩, rfl⟩
            rw [List.mem_append, hms']
            simp only [List.mem_append, List.mem_singleton]
            constructor
            · rintro ((h | ⟨h1, h2⟩) | rfl)
              · exact .inl h
              · exact .inr ⟨.inl h1, h2⟩
              · exact .inr ⟨.inr rfl, hf⟩
            · rintro (h | ⟨h1 | rfl, h2⟩)
              · exact .inl (.inl h)
              · exact .inl (.inr ⟨h1, h2⟩)
              · exact .inr rfl
      · rintro ρ κ' ⟨doneO, ms', y, hdO, rfl, hms', hml', hmn', rfl⟩
        rw [List.append_nil] at hdO
        subst hdO
        refine hZ' _ _ ⟨doneL ++ [load], ms', _, _, by simp [hdL], rfl, fun one => ?_, ?_, hmn', rfl⟩
        · rw [hms', hms, hones]
          simp only [List.mem_append, List.mem_singleton]
          constructor
          · rintro (⟨⟨l, hl, n⟩, h⟩ | ⟨n, h⟩)
            · exact ⟨⟨l, .inl hl, n⟩, h⟩
            · exact ⟨⟨load, .inr rfl, n⟩, h⟩
          · rintro ⟨⟨l, hl | rfl, n⟩, h⟩
            · exact .inl ⟨⟨l, hl, n⟩, h⟩
            · exact .inr ⟨n, h⟩
        · rw [List.length_append, Nat.add_mul]
          simp
          omega
    · rintro ρ κ' ⟨doneL, ms, x, y, hdL, rfl, hms, hml, hmn, rfl⟩
      rw [List.append_nil] at hdL
      subst hdL
      simp [-Bool.exists_bool, gd, get_loc0]
      have hbm : (tab.getD done.length []).length * (done.length + 1) ≤ 5040 * 7 := Nat.mul_le_mul (by omega) (by omega)
      have ek : (levKv ms).map (fun x => x.fst) = ms.map tI := by
        rw [levKv, List.map_map]
        rfl
      refine ⟨by rw [levKv, List.length_map]; omega, ?_⟩
      rw [ek]
      refine use_sortLev (by omega) (fun L hL => ?_) fun ms' pm => ?_
      · obtain ⟨⟨_, _, n⟩, _⟩ := (hms L).mp hL
        exact (next_len n).2
      · have et : tab.map lV ++ [lV ms'] = (tab ++ [ms']).map lV := by rw [List.map_append]; rfl
        simp [-Bool.exists_bool, -List.map_append, get_loc0, set_loc0, et]
        refine ⟨by omega, hZ _ _ ⟨tab ++ [ms'], _, done ++ [w], _, _, _, _, rfl, by simp [hd], lev_step lo (fun one => ?_) (by rw [pm.length_eq]; exact hml) (pm.symm.nodup hmn) (by rw [pm.length_eq]; omega), rfl⟩⟩
        rw [pm.mem_iff, hms]
  · rintro ρ κ' ⟨tab, junk, done, x, y, z, u, rfl, hd, lo, rfl⟩
    rw [List.append_nil] at hd
    subst hd
    simp [-Bool.exists_bool, get_loc0, set_loc0]
    refine fin_app co ?_ (h T tab pT hT lo.ok)
    rw [blw]
    exact blws_map _ (fun lv => by rw [lV, blw]; exact blws_map _ (blw_tI _) lv) tab
end PD
set_option Elab.async false
set_option linter.all false
set_option autoImplicit false
set_option maxRecDepth 100000
set_option maxHeartbeats 4000000
/-! PD, part 34: pictures of data under ==, in and sorted; masks. -/
namespace PD
open PySem PySem.Spec PyProof.Rows L2
/-! ### pictures under == -/
structure EqF {α : Type} [DecidableEq α] (f : α → D) (n : Nat) : Prop where
  eq : ∀ x y, eqD (f x) (f y) = decide (x = y)
  pl : ∀ x, plain (f x) = true
  dp : ∀ x, dep (f x) ≤ n
section
variable {α : Type} [DecidableEq α] {f : α → D} {n : Nat} {κ : Cs} {R : D → Cs → Prop} {RA : List D → Cs → Prop}
def lF (f : α → D) (xs : List α) : D := .lst (xs.map f)
theorem eqDs_map (h : EqF f n) : ∀ xs ys : List α, PyData.eqvAll (pysOf (xs.map f)) (pysOf (ys.map f)) = decide (xs = ys)
  | [], [] => by simp [pysOf, PyData.eqvAll]
  | [], _ :: _ => by simp [pysOf, PyData.eqvAll]
  | _ :: _, [] => by simp [pysOf, PyData.eqvAll]
  | x :: xs, y :: ys => by
    rw [List.map_cons, List.map_cons, pysOf, pysOf, PyData.eqvAll, eqDs_map h xs ys]
    have e := h.eq x y
    rw [eqD] at e
    rw [e, Bool.eq_iff_iff]
    simp
theorem EqF.lst (h : EqF f n) : EqF (lF f) (n + 1) where
  eq xs ys := by
    rw [eqD, lF, lF, pyOf, pyOf, PyData.eqv]
    exact eqDs_map h xs ys
  pl xs := by
    rw [lF, plain]
    exact plains_map h.pl xs
  dp xs := by
    rw [lF, dep]
    have := deps_map h.dp xs
    omega
theorem view_plain {d : D} (h : plain d = true) : view κ d = d := by
  cases d <;> first | rfl | simp [plain] at h
theorem EqF.ok (h : EqF f n) (hn : n ≤ 60) (x : α) : okD (f x) := ⟨h.pl x, Nat.le_trans (h.dp x) hn⟩
theorem use_in (h : EqF f n) (hn : n ≤ 59) {g : Bool → Bool} {x : α} {xs : List α} (hR : R (.bl (g (decide (x ∈ xs)))) κ) : dInL g (f x) (lF f xs) κ R := by
  refine ⟨xs.map f, rfl, ?_, h.lst.ok (by omega) xs, ?_⟩
  · rw [view_plain (h.pl x)]
    exact h.ok (by omega) x
  · have e : ((xs.map f).any fun z => eqD z (view κ (f x))) = decide (x ∈ xs) := by
      rw [view_plain (h.pl x), List.any_map, Bool.eq_iff_iff, List.any_eq_true, decide_eq_true_eq]
      constructor
      · rintro ⟨y, hy, e⟩
        have e : eqD (f y) (f x) = true := e
        rw [h.eq] at e
        rwa [← of_decide_eq_true e]
      · intro hx
        refine ⟨x, hx, ?_⟩
        show eqD (f x) (f x) = true
        rw [h.eq]
        exact decide_eq_true rfl
    rw [e]
    exact hR
theorem use_eqF (h : EqF f n) (hn : n ≤ 59) {xs ys : List α} (hR : R (.bl (decide (xs = ys))) κ) : dEq (lF f xs) (lF f ys) κ R := by
  show okD (lF f xs) ∧ okD (lF f ys) ∧ R (.bl (eqD (lF f xs) (lF f ys))) κ
  exact ⟨h.lst.ok (by omega) _, h.lst.ok (by omega) _, by rw [h.lst.eq]; exact hR⟩
theorem use_neF (h : EqF f n) (hn : n ≤ 59) {xs ys : List α} (hR : R (.bl (!decide (xs = ys))) κ) : dNe (lF f xs) (lF f ys) κ R := by
  show okD (lF f xs) ∧ okD (lF f ys) ∧ R (.bl (!eqD (lF f xs) (lF f ys))) κ
  exact ⟨h.lst.ok (by omega) _, h.lst.ok (by omega) _, by rw [h.lst.eq]; exact hR⟩
/-- a cell's list against a list -/
theorem use_eqC (h : EqF f n) (hn : n ≤ 59) {k : Nat} {xs ys : List α} (hk : κ[k]? = some (some (.lst (xs.map f)))) (hR : R (.bl (decide (xs = ys))) κ) : dEq (.cell k) (lF f ys) κ R := by
  have l : lstOf κ (.cell k) = some (xs.map f) := by simp only [lstOf, hk]
  have v : view κ (.cell k) = lF f xs := by simp only [view, l, lF]
  show okD (view κ (.cell k)) ∧ okD (view κ (lF f ys)) ∧ R (.bl (eqD (view κ (.cell k)) (view κ (lF f ys)))) κ
  rw [v, show view κ (lF f ys) = lF f ys from rfl, h.lst.eq]
  exact ⟨h.lst.ok (by omega) _, h.lst.ok (by omega) _, hR⟩
end
theorem eqF_int : EqF (fun i : Int => D.int i) 0 where
  eq x y := by simp only [eqD, pyOf, PyData.eqv]; exact Bool.eq_iff_iff.mpr (by simp)
  pl _ := rfl
  dp _ := by simp [dep]
theorem eqF_side : EqF sideD 1 := ⟨eqD_side, plain_side, dep_side⟩
/-! ### sorted -/
structure SortF {α : Type} (f : α → D) (n : Nat) : Prop where
  al : ∀ x y, PySem.W.alike (pyOf (f x)) (pyOf (f y)) = true
  sh : (∀ x, ∃ y r, pyOf (f x) = .tuple (y :: r)) ∨ ∀ x, pyOf (f x) ≠ .none ∧ ∀ xs, pyOf (f x) ≠ .tuple xs
  dp : ∀ x, (pyOf (f x)).depth ≤ n
  pl : ∀ x, plain (f x) = true
section
variable {α : Type} {f : α → D} {n : Nat} {κ : Cs} {R : D → Cs → Prop}
def srt (f : α → D) (xs : List α) : List α := xs.mergeSort (PySem.W.dataLe false fun x => pyOf (f x))
theorem srt_perm (f : α → D) (xs : List α) : (srt f xs).Perm xs := List.mergeSort_perm _ _
def Asc (f : α → D) (xs : List α) : Prop := xs.Pairwise fun a b => PySem.W.dataLe false (fun x => pyOf (f x)) a b = true
theorem srt_asc (f : α → D) (xs : List α) : Asc f (srt f xs) := sorted_ms (fun x => pyOf (f x)) xs
theorem srt_of_asc {xs : List α} (h : Asc f xs) : srt f xs = xs := List.mergeSort_of_pairwise h
theorem srt_srt (f : α → D) (xs : List α) : srt f (srt f xs) = srt f xs := srt_of_asc (srt_asc f xs)
theorem Asc.sub {xs ys : List α} (h : Asc f xs) (s : ys.Sublist xs) : Asc f ys := List.Pairwise.sublist s h
theorem use_sortF (h : SortF f n) (hn : n ≤ 10) {xs : List α} (hl : xs.length ≤ 100000) (hR : R (.lst ((srt f xs).map f)) κ) : dSortD [.lst (xs.map f)] κ R := by
  have e0 : pysOf (xs.map f) = xs.map fun x => pyOf (f x) := by rw [pysOf_eq, List.map_map]; rfl
  refine ⟨xs.map f, rfl, by rwa [List.length_map], plains_map h.pl xs, ?_, ?_, ?_, ?_⟩
  · rw [e0]
    exact PySem.W.AllAlike.of fun a b => h.al a b
  · rw [e0]
    rcases h.sh with s | s
    · exact PySem.W.Sortable.tuples s
    · exact PySem.W.Sortable.others s
  · rw [e0]
    intro d hd
    obtain ⟨x, _, rfl⟩ := List.mem_map.mp hd
    exact Nat.le_trans (h.dp x) hn
  · rw [e0, sortBy_map]
    exact hR
theorem alike_map (h : SortF f n) : ∀ xs ys : List α, PySem.W.alikeAll (pysOf (xs.map f)) (pysOf (ys.map f)) = true
  | [], _ => by simp [pysOf, PySem.W.alikeAll]
  | _ :: _, [] => by simp [pysOf, PySem.W.alikeAll]
  | x :: xs, y :: ys => by
    rw [List.map_cons, List.map_cons, pysOf, pysOf, PySem.W.alikeAll, alike_map h xs ys, h.al x y]
    rfl
theorem depth_map (h : SortF f n) : ∀ xs : List α, PyData.depthAll (pysOf (xs.map f)) ≤ n
  | [] => by simp [pysOf, PyData.depthAll]
  | x :: xs => by
    rw [List.map_cons, pysOf, PyData.depthAll]
    exact Nat.max_le.mpr ⟨h.dp x, depth_map h xs⟩
theorem SortF.lst [DecidableEq α] (h : SortF f n) : SortF (lF f) (n + 1) where
  al xs ys := by
    rw [lF, lF, pyOf, pyOf, PySem.W.alike]
    exact alike_map h xs ys
  sh := .inr fun xs => by rw [lF, pyOf]; exact ⟨by simp, by simp⟩
  dp xs := by
    rw [lF, pyOf, PyData.depth]
    have := depth_map h xs
    omega
  pl xs := by
    rw [lF, plain]
    exact plains_map h.pl xs
end
theorem sortF_side : SortF sideD 1 where
  al x y := by simp [sideD, pyOf, pysOf, PySem.W.alike, PySem.W.alikeAll]
  sh := .inl fun x => ⟨_, _, rfl⟩
  dp x := by simp [sideD, pyOf, pysOf, PyData.depth, PyData.depthAll]
  pl := plain_side
/-! ### bits -/
theorem and_bit (m i : Nat) : decide (Builtin.bitAnd (m : Int) ((2 ^ i : Nat) : Int) = 0) = !m.testBit i := by
  have e : Builtin.bitAnd (m : Int) ((2 ^ i : Nat) : Int) = ((m &&& 2 ^ i : Nat) : Int) := by
    unfold Builtin.bitAnd
    rw [decide_eq_true (Int.natCast_nonneg m), decide_eq_true (Int.natCast_nonneg (2 ^ i))]
    rw [Int.toNat_natCast, Int.toNat_natCast]
  rw [e]
  cases q : m.testBit i with
  | false =>
    have : m &&& 2 ^ i = 0 := Nat.eq_of_testBit_eq fun j => by
      rw [Nat.testBit_and, Nat.testBit_two_pow, Nat.zero_testBit]
      by_cases h : i = j
      · subst h
        rw [q]
        rfl
      · simp [h]
    rw [this]
    rfl
  | true =>
    have : m &&& 2 ^ i ≠ 0 := fun h => by
      have t : (m &&& 2 ^ i).testBit i = true := by rw [Nat.testBit_and, Nat.testBit_two_pow, q]; simp
      rw [h, Nat.zero_testBit] at t
      cases t
    simp [this]
theorem bit_half (m j : Nat) : m.testBit (j + 1) = (m / 2).testBit j := Nat.testBit_succ m j
theorem bit_zero (m : Nat) : m.testBit 0 = decide (m % 2 = 1) := Nat.testBit_zero m
theorem bit_add : ∀ (i m : Nat), m.testBit i = false → ∀ j, (m + 2 ^ i).testBit j = (m.testBit j || decide (j = i))
  | 0, m, h, j => by
    rw [bit_zero] at h
    have h := of_decide_eq_false h
    cases j with
    | zero =>
      rw [bit_zero, bit_zero]
      have : (m + 2 ^ 0) % 2 = 1 := by omega
      simp [this]
    | succ j =>
      rw [bit_half, bit_half]
      have : (m + 2 ^ 0) / 2 = m / 2 := by omega
      rw [this]
      simp
  | i + 1, m, h, j => by
    rw [bit_half] at h
    have ih := bit_add i (m / 2) h
    cases j with
    | zero =>
      rw [bit_zero, bit_zero]
      have : (m + 2 ^ (i + 1)) % 2 = m % 2 := by rw [Nat.pow_succ]; omega
      rw [this]
      simp
    | succ j =>
      rw [bit_half, bit_half]
      have : (m + 2 ^ (i + 1)) / 2 = m / 2 + 2 ^ i := by rw [Nat.pow_succ]; omega
      rw [this, ih]
      simp
theorem bit_le {m i : Nat} (h : m.testBit i = true) : 2 ^ i ≤ m := Nat.ge_two_pow_of_testBit h
theorem bit_sub : ∀ (i m : Nat), m.testBit i = true → ∀ j, (m - 2 ^ i).testBit j = (m.testBit j && !decide (j = i))
  | 0, m, h, j => by
    rw [bit_zero] at h
    have h := of_decide_eq_true h
    cases j with
    | zero =>
      rw [bit_zero, bit_zero]
      have : ¬(m - 2 ^ 0) % 2 = 1 := by omega
      simp [this]
    | succ j =>
      rw [bit_half, bit_half]
      have : (m - 2 ^ 0) / 2 = m / 2 := by omega
      rw [this]
      simp
  | i + 1, m, h, j => by
    rw [bit_half] at h
    have ih := bit_sub i (m / 2) h
    have := bit_le h
    cases j with
    | zero =>
      rw [bit_zero, bit_zero]
      have : (m - 2 ^ (i + 1)) % 2 = m % 2 := by rw [Nat.pow_succ]; omega
      rw [this]
      simp
    | succ j =>
      rw [bit_half, bit_half]
      have : (m - 2 ^ (i + 1)) / 2 = m / 2 - 2 ^ i := by rw [Nat.pow_succ]; omega
      rw [this, ih]
      simp
theorem bit_lt {m n : Nat} (h : ∀ i, n ≤ i → m.testBit i = false) : m < 2 ^ n := Nat.lt_pow_two_of_testBit m fun i hi => h i hi
/-- the mask of a predicate -/
theorem mask_of (n : Nat) (p : Nat → Bool) : ∃ m, m < 2 ^ n ∧ ∀ i, i < n → m.testBit i = p i := by
  induction n generalizing p with
  | zero => exact ⟨0, by decide, fun i h => by omega⟩
  | succ n ih =>
    obtain ⟨m, h1, h2⟩ := ih fun i => p (i + 1)
    refine ⟨2 * m + (p 0).toNat, ?_, fun i hi => ?_⟩
    · rw [Nat.pow_succ]
      cases p 0 <;> simp <;> omega
    · cases i with
      | zero =>
        rw [bit_zero]
        cases p 0 <;> simp <;> omega
      | succ i =>
        rw [bit_half]
        have : (2 * m + (p 0).toNat) / 2 = m := by cases p 0 <;> simp <;> omega
        rw [this]
        exact h2 i (by omega)
/-! ### members of a mask -/
section
variable {α : Type} {z : α}
def memb (z : α) (items : List α) (m : Nat) : List α := ((List.range items.length).filter fun i => m.testBit i).map fun i => items.getD i z
theorem range_getD (z : α) (items : List α) : (List.range items.length).map (fun i => items.getD i z) = items := by
  apply List.ext_getElem
  · simp
  · intro i h1 h2
    rw [List.getElem_map, List.getElem_range, getD_lt h2]
theorem memb_sub (z : α) (items : List α) (m : Nat) : (memb z items m).Sublist items := by
  have := (List.filter_sublist (p := fun i => m.testBit i) (l := List.range items.length)).map fun i => items.getD i z
  rwa [range_getD] at this
theorem mem_memb {items : List α} {m : Nat} {x : α} : x ∈ memb z items m ↔ ∃ i, ∃ h : i < items.length, m.testBit i = true ∧ items[i] = x := by
  rw [memb, List.mem_map]
  constructor
  · rintro ⟨i, hi, e⟩
    rw [List.mem_filter, List.mem_range] at hi
    refine ⟨i, hi.1, hi.2, ?_⟩
    rwa [getD_lt hi.1] at e
  · rintro ⟨i, h, hb, e⟩
    exact ⟨i, List.mem_filter.mpr ⟨List.mem_range.mpr h, hb⟩, by rw [getD_lt h]; exact e⟩
theorem memb_map {β : Type} {y : β} (g : α → β) (items : List α) (m : Nat) : memb y (items.map g) m = (memb z items m).map g := by
  rw [memb, memb, List.length_map, List.map_map]
  refine List.map_congr_left fun i hi => ?_
  have h := List.mem_range.mp (List.mem_filter.mp hi).1
  show (items.map g).getD i y = g (items.getD i z)
  rw [getD_lt h, getD_lt (by rwa [List.length_map]), List.getElem_map]
theorem memb_mono {items : List α} {m m' : Nat} (h : ∀ i, m.testBit i = true → m'.testBit i = true) : (memb z items m).Sublist (memb z items m') := by
  have e : (List.range items.length).filter (fun i => m.testBit i) = ((List.range items.length).filter fun i => m'.testBit i).filter fun i => m.testBit i := by
    rw [List.filter_filter]
    refine List.filter_congr fun i _ => ?_
    cases q : m.testBit i with
    | false => simp
    | true => simp [h i q]
  rw [memb, memb, e]
  exact List.filter_sublist.map _
theorem memb_len (z : α) (items : List α) (m : Nat) : (memb z items m).length ≤ items.length := (memb_sub z items m).length_le
/-- a part of a list without repeats, told by its members -/
theorem sub_filter [DecidableEq α] : ∀ {L items : List α}, L.Sublist items → items.Nodup → items.filter (fun x => decide (x ∈ L)) = L
  | _, _, .slnil, _ => rfl
  | L, _, .cons (l₂ := l) a s, nd => by
    have hn := List.nodup_cons.mp nd
    have : a ∉ L := fun h => hn.1 (s.subset h)
    rw [List.filter_cons, if_neg (by simpa using this)]
    exact sub_filter s hn.2
  | _, _, .cons₂ (l₁ := k) (l₂ := l) a s, nd => by
    have hn := List.nodup_cons.mp nd
    rw [List.filter_cons, if_pos (by simp)]
    congr 1
    have e : l.filter (fun x => decide (x ∈ a :: k)) = l.filter (fun x => decide (x ∈ k)) := List.filter_congr fun x hx => by
      have : x ≠ a := fun h => hn.1 (h ▸ hx)
      simp [this]
    rw [e]
    exact sub_filter s hn.2
theorem sub_ext [DecidableEq α] {L L' items : List α} (s : L.Sublist items) (s' : L'.Sublist items) (nd : items.Nodup) (h : ∀ x, x ∈ L ↔ x ∈ L') : L = L' := by
  rw [← sub_filter s nd, ← sub_filter s' nd]
  exact List.filter_congr fun x _ => by simp [h x]
/-- each part is the members of a mask -/
theorem memb_of [DecidableEq α] {L items : List α} (s : L.Sublist items) (nd : items.Nodup) : ∃ m, m < 2 ^ items.length ∧ memb z items m = L := by
  obtain ⟨m, h1, h2⟩ := mask_of items.length fun i => decide (items.getD i z ∈ L)
  refine ⟨m, h1, sub_ext (memb_sub z items m) s nd fun x => ?_⟩
  rw [mem_memb]
  constructor
  · rintro ⟨i, h, hb, e⟩
    rw [h2 i h, getD_lt h, e] at hb
    exact of_decide_eq_true hb
  · intro hx
    obtain ⟨i, h, e⟩ := List.mem_iff_getElem.mp (s.subset hx)
    exact ⟨i, h, by rw [h2 i h, getD_lt h, e]; exact decide_eq_true hx, e⟩
theorem nodup_get {items : List α} (nd : items.Nodup) {i j : Nat} (hi : i < items.length) (hj : j < items.length) (e : items[i] = items[j]) : i = j := by
  have h := List.pairwise_iff_getElem.mp nd
  rcases Nat.lt_trichotomy i j with q | q | q
  · exact absurd e (h i j hi hj q)
  · exact q
  · exact absurd e.symm (h j i hj hi q)
theorem memb_inj {items : List α} (nd : items.Nodup) {m m' : Nat} (h : m < 2 ^ items.length) (h' : m' < 2 ^ items.length) (e : memb z items m = memb z items m') : m = m' := by
  refine Nat.eq_of_testBit_eq fun i => ?_
  by_cases q : i < items.length
  · have key : ∀ a b : Nat, memb z items a = memb z items b → a.testBit i = true → b.testBit i = true := fun a b e ha => by
      have : items[i] ∈ memb z items b := by rw [← e]; exact mem_memb.mpr ⟨i, q, ha, rfl⟩
      obtain ⟨j, hj, hb, ej⟩ := mem_memb.mp this
      rwa [← nodup_get nd hj q ej]
    cases a : m.testBit i with
    | true => exact (key m m' e a).symm
    | false =>
      cases b : m'.testBit i with
      | false => rfl
      | true => rw [key m' m e.symm b] at a; cases a
  · have lt : ∀ k, k < 2 ^ items.length → k.testBit i = false := fun k hk => Nat.testBit_lt_two_pow (Nat.lt_of_lt_of_le hk (Nat.pow_le_pow_right (by decide) (by omega)))
    rw [lt m h, lt m' h']
theorem memb_subset {items : List α} (nd : items.Nodup) {m m' : Nat} (h : m < 2 ^ items.length) : (∀ x ∈ memb z items m, x ∈ memb z items m') ↔ ∀ i, m.testBit i = true → m'.testBit i = true := by
  constructor
  · intro hs i hb
    have q : i < items.length := by
      refine Classical.byContradiction fun q => ?_
      rw [Nat.testBit_lt_two_pow (Nat.lt_of_lt_of_le h (Nat.pow_le_pow_right (by decide) (by omega)))] at hb
      cases hb
    obtain ⟨j, hj, hb', e⟩ := mem_memb.mp (hs _ (mem_memb.mpr ⟨i, q, hb, rfl⟩))
    rwa [← nodup_get nd hj q e]
  · intro hs x hx
    obtain ⟨i, hi, hb, e⟩ := mem_memb.mp hx
    exact mem_memb.mpr ⟨i, hi, hs i hb, e⟩
end
end PD
set_option Elab.async false
set_option linter.all false
set_option autoImplicit false
set_option maxRecDepth 100000
set_option maxHeartbeats 4000000
/-! Plain laws: packings with more rooms, with the greatest rooms, of seats of one weight; light and heavy sets. -/
namespace PD
open PySem PySem.Spec PyProof.Rows L2
theorem can_mono {T T' : List Int} (h : ∀ c : Int, T.countP (fun x => decide (c < x)) ≤ T'.countP fun x => decide (c < x)) : ∀ {rem L : List Int}, Can T rem L → Can T' rem L
  | [], _, f => fun c => Nat.le_trans (f c) (h c)
  | w :: rem, _, f => by
    rcases f with f | ⟨x, R, p, f⟩
    · exact .inl (can_mono h f)
    · exact .inr ⟨x, R, p, can_mono h f⟩
theorem desc_of (rooms : List Int) : ∃ T : List Int, T.Perm rooms ∧ T.Pairwise (· ≥ ·) := by
  refine ⟨rooms.mergeSort fun a b => decide (b ≤ a), List.mergeSort_perm _ _, ?_⟩
  have hs := List.pairwise_mergeSort (le := fun a b : Int => decide (b ≤ a)) (fun a b c h1 h2 => by
    simp only [decide_eq_true_eq] at *
    omega) (fun a b => by
    simp only [Bool.or_eq_true, decide_eq_true_eq]
    omega) rooms
  exact hs.imp fun h => of_decide_eq_true h
theorem packR_sub {ws rooms rooms' : List Int} (h0 : ∀ r ∈ rooms', 0 ≤ r) (s : rooms.Sublist rooms') (p : PackR ws rooms) : PackR ws rooms' := by
  obtain ⟨T, pT, sT⟩ := desc_of rooms
  obtain ⟨T', pT', sT'⟩ := desc_of rooms'
  rw [← can_iff (fun r hr => h0 r (s.subset hr)) pT sT (List.Perm.refl ws)] at p
  rw [← can_iff h0 pT' sT' (List.Perm.refl ws)]
  refine can_mono (fun c => ?_) p
  rw [pT.countP_eq, pT'.countP_eq]
  exact s.countP_le
theorem take_count {T : List Int} (sT : T.Pairwise (· ≥ ·)) (n : Nat) (c : Int) : (T.take n).countP (fun x => decide (c < x)) = min n (T.countP fun x => decide (c < x)) := by
  induction T generalizing n with
  | nil => simp
  | cons t T ih =>
    cases n with
    | zero => simp
    | succ n =>
      have h := List.pairwise_cons.mp sT
      rw [List.take_succ_cons, List.countP_cons, List.countP_cons, ih h.2 n]
      by_cases q : c < t
      · simp only [q, decide_true, if_true]
        omega
      · have e : T.countP (fun x => decide (c < x)) = 0 := List.countP_eq_zero.mpr fun x hx => by
          have := h.1 x hx
          simp only [decide_eq_true_eq]
          omega
        simp only [q, decide_false, e]
        simp
theorem can_take {T : List Int} {n : Nat} (sT : T.Pairwise (· ≥ ·)) : ∀ {rem L : List Int}, L.length + rem.length ≤ n → Can T rem L → Can (T.take n) rem L
  | [], L, hn, f => fun c => by
    rw [take_count sT]
    have h1 := f c
    have h2 := List.countP_le_length (p := fun x => decide (c < x)) (l := L)
    simp only [List.length_nil] at hn
    omega
  | w :: rem, L, hn, f => by
    rw [List.length_cons] at hn
    rcases f with f | ⟨x, R, p, f⟩
    · exact .inl (can_take sT (by rw [List.length_cons]; omega) f)
    · have := p.length_eq
      rw [List.length_cons] at this
      exact .inr ⟨x, R, p, can_take sT (by rw [List.length_cons]; omega) f⟩
/-- the greatest rooms, as many as there are seats, are enough -/
theorem packR_top {ws rooms T : List Int} (h0 : ∀ r ∈ rooms, 0 ≤ r) (pT : T.Perm rooms) (sT : T.Pairwise (· ≥ ·)) : PackR ws (T.take ws.length) ↔ PackR ws rooms := by
  have hT : ∀ r ∈ T, 0 ≤ r := fun r hr => h0 r (pT.mem_iff.mp hr)
  constructor
  · intro p
    exact (packR_perm h0 pT (List.Perm.refl ws)).mp (packR_sub hT (List.take_sublist _ _) p)
  · intro p
    rw [← can_iff h0 pT sT (List.Perm.refl ws)] at p
    rw [← can_iff (fun r hr => hT r (List.mem_of_mem_take hr)) (List.Perm.refl _) (sT.sublist (List.take_sublist _ _)) (List.Perm.refl ws)]
    exact can_take sT (by simp) p
/-! ### seats of one weight -/
theorem sumZ_unit (w : Int) (j : Nat) : ∀ fs : List Nat, sumZ (fs.zip (List.replicate fs.length w)) j = w * (fs.count j : Nat)
  | [] => by simp [sumZ]
  | f :: fs => by
    rw [List.length_cons, List.replicate_succ, List.zip_cons_cons, sumZ_cons, sumZ_unit w j fs, List.count_cons]
    by_cases q : f = j
    · subst q
      simp [Int.mul_add]
      omega
    · simp [q]
theorem unit_fit {w : Int} {n : Nat} {fs : List Nat} (h : fs.length = n) (j : Nat) : sumAt (List.replicate n w) (fun s => fs.getD s 0) (List.range (List.replicate n w).length) j = w * (fs.count j : Nat) := by
  rw [sumAt_zip (by simp [h]), ← h, sumZ_unit]
theorem count_sum : ∀ (fs : List Nat) (m : Nat), (∀ j ∈ fs, j < m) → fs.length = ((List.range m).map fun j => fs.count j).sum
  | [], m, _ => by
    simp only [List.count_nil, List.length_nil]
    induction m with
    | zero => rfl
    | succ m ih => rw [List.range_succ, List.map_append, List.sum_append, ← ih (fun _ h => nomatch h)]; rfl
  | f :: fs, m, h => by
    have ih := count_sum fs m fun j hj => h j (by simp [hj])
    have hf := h f (by simp)
    have e2 : ∀ k, ((List.range k).map fun j => (f :: fs).count j).sum = (if f < k then 1 else 0) + ((List.range k).map fun j => fs.count j).sum := by
      intro k
      induction k with
      | zero => simp
      | succ k ihk =>
        rw [List.range_succ, List.map_append, List.map_append, List.sum_append, List.sum_append, ihk]
        simp only [List.map_cons, List.map_nil, List.sum_cons, List.sum_nil, List.count_cons, beq_iff_eq]
        split <;> split <;> split <;> omega
    rw [e2, if_pos hf, ← ih, List.length_cons]
    omega
def spread : List Nat → Nat → List Nat
  | [], _ => []
  | k :: ks, j => List.replicate k j ++ spread ks (j + 1)
theorem spread_ge : ∀ (ks : List Nat) (j : Nat), ∀ x ∈ spread ks j, j ≤ x ∧ x < j + ks.length
  | [], _, _, h => nomatch h
  | k :: ks, j, x, h => by
    rw [spread, List.mem_append] at h
    rw [List.length_cons]
    rcases h with h | h
    · have := (List.mem_replicate.mp h).2
      omega
    · have := spread_ge ks (j + 1) x h
      omega
theorem spread_len : ∀ (ks : List Nat) (j : Nat), (spread ks j).length = ks.sum
  | [], _ => rfl
  | k :: ks, j => by rw [spread, List.length_append, List.length_replicate, spread_len ks (j + 1), List.sum_cons]
theorem spread_count : ∀ (ks : List Nat) (j i : Nat), i < ks.length → (spread ks j).count (j + i) = ks.getD i 0
  | [], _, _, h => by simp at h
  | k :: ks, j, i, h => by
    rw [spread, List.count_append]
    cases i with
    | zero =>
      have e : (spread ks (j + 1)).count j = 0 := List.count_eq_zero.mpr fun hm => by
        have := spread_ge ks (j + 1) j hm
        omega
      simp [e]
    | succ i =>
      have e := spread_count ks (j + 1) i (by simpa using h)
      have e2 : (List.replicate k j).count (j + (i + 1)) = 0 := List.count_eq_zero.mpr fun hm => by
        have := (List.mem_replicate.mp hm).2
        omega
      rw [e2, show j + (i + 1) = j + 1 + i by omega, e]
      simp
theorem unit_pack {w : Int} (hw : 0 < w) (n : Nat) {rooms : List Int} (h0 : ∀ r ∈ rooms, 0 ≤ r) : PackR (List.replicate n w) rooms ↔ (n : Int) ≤ (rooms.map fun r => r / w).sum := by
  have hs : ∀ rs : List Int, (∀ r ∈ rs, 0 ≤ r) → (rs.map fun r => r / w).sum = (((rs.map fun r => (r / w).toNat).sum : Nat) : Int) := by
    intro rs hr
    induction rs with
    | nil => rfl
    | cons r rs ih =>
      have h1 := Int.ediv_nonneg (hr r (by simp)) (Int.le_of_lt hw)
      rw [List.map_cons, List.map_cons, List.sum_cons, List.sum_cons, ih fun r h => hr r (by simp [h])]
      omega
  rw [hs rooms h0]
  constructor
  · rintro ⟨fs, p⟩
    have hl : fs.length = n := by simpa using p.len
    have h1 := count_sum fs rooms.length p.lt
    have h2 : ∀ k, k ≤ rooms.length → ((List.range k).map fun j => fs.count j).sum ≤ ((rooms.take k).map fun r => (r / w).toNat).sum := by
      intro k hk
      induction k with
      | zero => simp
      | succ k ih =>
        have ih := ih (by omega)
        have h3 := p.fit k (by omega)
        rw [unit_fit hl, getD_lt (by omega)] at h3
        have h4 : ((fs.count k : Nat) : Int) ≤ rooms[k] / w := by
          rw [Int.le_ediv_iff_mul_le hw, Int.mul_comm]
          exact h3
        rw [List.range_succ, List.map_append, List.sum_append, List.take_succ_eq_append_getElem (by omega), List.map_append, List.sum_append]
        simp only [List.map_cons, List.map_nil, List.sum_cons, List.sum_nil]
        omega
    have := h2 rooms.length (Nat.le_refl _)
    rw [List.take_length] at this
    omega
  · intro h
    have hl : ((spread (rooms.map fun r => (r / w).toNat) 0).take n).length = n := by
      rw [List.length_take, spread_len]
      omega
    refine ⟨(spread (rooms.map fun r => (r / w).toNat) 0).take n, by simpa using hl, fun j hj => ?_, fun j hj => ?_⟩
    · have := spread_ge _ 0 j (List.mem_of_mem_take hj)
      rw [List.length_map] at this
      omega
    · rw [unit_fit hl]
      have h1 : ((spread (rooms.map fun r => (r / w).toNat) 0).take n).count j ≤ (spread (rooms.map fun r => (r / w).toNat) 0).count j := (List.take_sublist _ _).count_le j
      have h2 := spread_count (rooms.map fun r => (r / w).toNat) 0 j (by simpa using hj)
      rw [Nat.zero_add, getD_lt (by simpa using hj), List.getElem_map] at h2
      rw [getD_lt hj]
      have h3 := Int.ediv_nonneg (h0 _ (List.getElem_mem hj)) (Int.le_of_lt hw)
      have h4 : ((((spread (rooms.map fun r => (r / w).toNat) 0).take n).count j : Nat) : Int) ≤ rooms[j] / w := by omega
      rw [Int.le_ediv_iff_mul_le hw, Int.mul_comm] at h4
      exact h4
/-! ### light and heavy sets -/
section
variable {α : Type} [DecidableEq α] {f : α → D} {z : α}
structure LightS (f : α → D) (Hv : List α → Prop) (some : List α) (found : List (List α)) : Prop where
  asc : Asc (lF f) found
  nd : found.Nodup
  mem : ∀ L, L ∈ found ↔ L.Sublist some ∧ ¬Hv L ∧ ∀ L' : List α, L'.Sublist some → ¬Hv L' → (∀ x ∈ L, x ∈ L') → ∀ x ∈ L', x ∈ L
structure HeavyS (f : α → D) (Hv : List α → Prop) (some : List α) (found : List (List α)) : Prop where
  asc : Asc (lF f) found
  nd : found.Nodup
  mem : ∀ L, L ∈ found ↔ L.Sublist some ∧ Hv L ∧ ∀ L' : List α, L'.Sublist some → Hv L' → (∀ x ∈ L', x ∈ L) → ∀ x ∈ L, x ∈ L'
theorem sub_sub {L L' S : List α} (s : L.Sublist S) (s' : L'.Sublist S) (nd : S.Nodup) (h : ∀ x ∈ L, x ∈ L') : L.Sublist L' := by
  rw [← sub_filter s nd, ← sub_filter s' nd]
  have ef : S.filter (fun x => decide (x ∈ L)) = (S.filter fun x => decide (x ∈ L')).filter fun x => decide (x ∈ L) := by
    rw [List.filter_filter]
    refine List.filter_congr fun x _ => ?_
    by_cases qx : x ∈ L
    · simp [qx, h x qx]
    · simp [qx]
  rw [ef]
  exact List.filter_sublist
theorem sub_len : ∀ {L L' : List α}, L.Nodup → (∀ x ∈ L, x ∈ L') → L.length ≤ L'.length
  | [], _, _, _ => Nat.zero_le _
  | a :: L, L', nd, h => by
    have hn := List.nodup_cons.mp nd
    have ha := h a (by simp)
    have ih := sub_len (L := L) (L' := L'.erase a) hn.2 fun x hx => by
      have : x ≠ a := fun e => hn.1 (e ▸ hx)
      exact (List.mem_erase_of_ne this).mpr (h x (by simp [hx]))
    have := List.length_pos_of_mem ha
    rw [List.length_erase_of_mem ha] at ih
    rw [List.length_cons]
    omega
theorem sub_len_lt {L L' : List α} (nd : L.Nodup) (h : ∀ x ∈ L, x ∈ L') {y : α} (hy : y ∈ L') (hn : y ∉ L) : L.length < L'.length := by
  have : (y :: L).length ≤ L'.length := sub_len (List.nodup_cons.mpr ⟨hn, nd⟩) fun x hx => by
    rcases List.mem_cons.mp hx with rfl | hx
    · exact hy
    · exact h x hx
  rw [List.length_cons] at this
  omega
theorem light_ext {Hv : List α → Prop} {some : List α} {found : List (List α)} (o : LightS f Hv some found) (nd : some.Nodup) : ∀ (n : Nat) {L : List α}, some.length - L.length ≤ n → L.Sublist some → ¬Hv L → ∃ L' ∈ found, ∀ x ∈ L, x ∈ L' := by
  intro n
  induction n with
  | zero =>
    intro L hn s h
    refine ⟨L, (o.mem L).mpr ⟨s, h, fun L' s' h' hs x hx => Classical.byContradiction fun q => ?_⟩, fun x hx => hx⟩
    have h1 := sub_len_lt (s.nodup nd) hs hx q
    have h2 := s'.length_le
    omega
  | succ n ih =>
    intro L hn s h
    by_cases q : L ∈ found
    · exact ⟨L, q, fun x hx => hx⟩
    · have : ∃ L' : List α, L'.Sublist some ∧ ¬Hv L' ∧ (∀ x ∈ L, x ∈ L') ∧ ∃ x ∈ L', x ∉ L := Classical.byContradiction fun hc => q ((o.mem L).mpr ⟨s, h, fun L' s' h' hs x hx => Classical.byContradiction fun hq => hc ⟨L', s', h', hs, x, hx, hq⟩⟩)
      obtain ⟨L', s', h', hs, x, hx, hq⟩ := this
      have h1 := sub_len_lt (s.nodup nd) hs hx hq
      have h2 := s'.length_le
      obtain ⟨M, hM, hs2⟩ := ih (by omega) s' h'
      exact ⟨M, hM, fun y hy => hs2 y (hs y hy)⟩
theorem heavy_ext {Hv : List α → Prop} {some : List α} {found : List (List α)} (o : HeavyS f Hv some found) (nd : some.Nodup) : ∀ (n : Nat) {L : List α}, L.length ≤ n → L.Sublist some → Hv L → ∃ L' ∈ found, ∀ x ∈ L', x ∈ L := by
  intro n
  induction n with
  | zero =>
    intro L hn s h
    have e : L = [] := List.eq_nil_of_length_eq_zero (by omega)
    refine ⟨L, (o.mem L).mpr ⟨s, h, fun L' s' h' hs x hx => ?_⟩, fun x hx => hx⟩
    rw [e] at hx
    cases hx
  | succ n ih =>
    intro L hn s h
    by_cases q : L ∈ found
    · exact ⟨L, q, fun x hx => hx⟩
    · have : ∃ L' : List α, L'.Sublist some ∧ Hv L' ∧ (∀ x ∈ L', x ∈ L) ∧ ∃ x ∈ L, x ∉ L' := Classical.byContradiction fun hc => q ((o.mem L).mpr ⟨s, h, fun L' s' h' hs x hx => Classical.byContradiction fun hq => hc ⟨L', s', h', hs, x, hx, hq⟩⟩)
      obtain ⟨L', s', h', hs, x, hx, hq⟩ := this
      have h1 := sub_len_lt (s'.nodup nd) hs hx hq
      obtain ⟨M, hM, hs2⟩ := ih (by omega) s' h'
      exact ⟨M, hM, fun y hy => hs y (hs2 y hy)⟩
/-- none is a part of another one -/
structure EndsOk (f : α → D) (some : List α) (found : List (List α)) : Prop where
  asc : Asc (lF f) found
  nd : found.Nodup
  sub : ∀ L ∈ found, L.Sublist some
  anti : ∀ L ∈ found, ∀ L' ∈ found, (∀ x ∈ L, x ∈ L') → L = L'
theorem light_ends {Hv : List α → Prop} {some : List α} {found : List (List α)} (o : LightS f Hv some found) (nd : some.Nodup) : EndsOk f some found where
  asc := o.asc
  nd := o.nd
  sub L h := ((o.mem L).mp h).1
  anti L h L' h' hs := by
    obtain ⟨s, a, b⟩ := (o.mem L).mp h
    obtain ⟨s', a', b'⟩ := (o.mem L').mp h'
    exact sub_ext s s' nd fun x => ⟨hs x, b L' s' a' hs x⟩
theorem heavy_ends {Hv : List α → Prop} {some : List α} {found : List (List α)} (o : HeavyS f Hv some found) (nd : some.Nodup) : EndsOk f some found where
  asc := o.asc
  nd := o.nd
  sub L h := ((o.mem L).mp h).1
  anti L h L' h' hs := by
    obtain ⟨s, a, b⟩ := (o.mem L).mp h
    obtain ⟨s', a', b'⟩ := (o.mem L').mp h'
    exact sub_ext s s' nd fun x => ⟨hs x, b' L s a hs x⟩
/-! ### from masks -/
def lightM (n : Nat) (hb : Nat → Bool) (m : Nat) : Bool := !hb m && ((List.range n).filter fun i => !m.testBit i).all fun i => hb (m + 2 ^ i)
def heavyM (n : Nat) (hb : Nat → Bool) (m : Nat) : Bool := hb m && !((List.range n).filter fun i => m.testBit i).any fun i => hb (m - 2 ^ i)
structure MaskT (Hv : List α → Prop) (z : α) (some : List α) (hb : Nat → Bool) : Prop where
  is : ∀ m, m < 2 ^ some.length → (hb m = true ↔ Hv (memb z some m))
  mono : ∀ m m', m < 2 ^ some.length → m' < 2 ^ some.length → (∀ i, m.testBit i = true → m'.testBit i = true) → Hv (memb z some m) → Hv (memb z some m')
theorem add_lt {n m i : Nat} (hm : m < 2 ^ n) (hi : i < n) (hb : m.testBit i = false) : m + 2 ^ i < 2 ^ n := bit_lt fun j hj => by
  rw [bit_add i m hb j, Nat.testBit_lt_two_pow (Nat.lt_of_lt_of_le hm (Nat.pow_le_pow_right (by decide) hj))]
  simp
  omega
theorem mem_pick {some : List α} {p : Nat → Bool} {L : List α} : L ∈ ((List.range (2 ^ some.length)).filter p).map (memb z some) ↔ ∃ m, m < 2 ^ some.length ∧ p m = true ∧ memb z some m = L := by
  rw [List.mem_map]
  constructor
  · rintro ⟨m, hm, e⟩
    rw [List.mem_filter, List.mem_range] at hm
    exact ⟨m, hm.1, hm.2, e⟩
  · rintro ⟨m, h1, h2, e⟩
    exact ⟨m, List.mem_filter.mpr ⟨List.mem_range.mpr h1, h2⟩, e⟩
theorem nodup_pick {some : List α} (nd : some.Nodup) (p : Nat → Bool) : (((List.range (2 ^ some.length)).filter p).map (memb z some)).Nodup := by
  rw [List.Nodup, List.pairwise_map]
  have h := (List.nodup_range (n := 2 ^ some.length)).sublist (List.filter_sublist (p := p))
  have h2 : ∀ m ∈ (List.range (2 ^ some.length)).filter p, m < 2 ^ some.length := fun m hm => List.mem_range.mp (List.mem_filter.mp hm).1
  rw [List.Nodup] at h
  refine List.Pairwise.imp_of_mem (fun {a b} ha hb hne e => hne (memb_inj nd (h2 a ha) (h2 b hb) e)) h
theorem light_of {Hv : List α → Prop} {some : List α} {hb : Nat → Bool} (t : MaskT Hv z some hb) (nd : some.Nodup) : LightS f Hv some (srt (lF f) (((List.range (2 ^ some.length)).filter (lightM some.length hb)).map (memb z some))) where
  asc := srt_asc _ _
  nd := (srt_perm _ _).symm.nodup (nodup_pick nd _)
  mem L := by
    rw [(srt_perm _ _).mem_iff, mem_pick]
    constructor
    · rintro ⟨m, hm, hl, rfl⟩
      rw [lightM, Bool.and_eq_true, Bool.not_eq_true', List.all_eq_true] at hl
      have h1 : ¬Hv (memb z some m) := fun h => by rw [(t.is m hm).mpr h] at hl; simp at hl
      refine ⟨memb_sub _ _ _, h1, fun L' s' h' hs x hx => Classical.byContradiction fun q => ?_⟩
      obtain ⟨m', hm', rfl⟩ := memb_of (z := z) s' nd
      obtain ⟨i, hi, hb', e⟩ := mem_memb.mp hx
      have hbi : m.testBit i = false := by
        cases w : m.testBit i with
        | false => rfl
        | true => exact absurd (mem_memb.mpr ⟨i, hi, w, e⟩) q
      have h2 := hl.2 i (List.mem_filter.mpr ⟨List.mem_range.mpr hi, by simp [hbi]⟩)
      refine h' (t.mono _ m' (add_lt hm hi hbi) hm' (fun j hj => ?_) ((t.is _ (add_lt hm hi hbi)).mp h2))
      rw [bit_add i m hbi, Bool.or_eq_true, decide_eq_true_eq] at hj
      rcases hj with hj | rfl
      · exact (memb_subset nd hm).mp hs j hj
      · exact hb'
    · rintro ⟨s, h1, h2⟩
      obtain ⟨m, hm, rfl⟩ := memb_of (z := z) s nd
      refine ⟨m, hm, ?_, rfl⟩
      rw [lightM, Bool.and_eq_true, Bool.not_eq_true', List.all_eq_true]
      refine ⟨?_, fun i hi => ?_⟩
      · cases w : hb m with
        | false => rfl
        | true => exact absurd ((t.is m hm).mp w) h1
      · rw [List.mem_filter, List.mem_range, Bool.not_eq_true'] at hi
        have hlt := add_lt hm hi.1 hi.2
        refine (t.is _ hlt).mpr (Classical.byContradiction fun q => ?_)
        have h3 := h2 (memb z some (m + 2 ^ i)) (memb_sub _ _ _) q ((memb_subset nd hm).mpr fun j hj => by rw [bit_add i m hi.2, hj]; rfl) some[i] (mem_memb.mpr ⟨i, hi.1, by rw [bit_add i m hi.2]; simp, rfl⟩)
        obtain ⟨j, hj, hb', e⟩ := mem_memb.mp h3
        rw [nodup_get nd hj hi.1 e, hi.2] at hb'
        cases hb'
theorem heavy_of {Hv : List α → Prop} {some : List α} {hb : Nat → Bool} (t : MaskT Hv z some hb) (nd : some.Nodup) : HeavyS f Hv some (srt (lF f) (((List.range (2 ^ some.length)).filter (heavyM some.length hb)).map (memb z some))) where
  asc := srt_asc _ _
  nd := (srt_perm _ _).symm.nodup (nodup_pick nd _)
  mem L := by
    rw [(srt_perm _ _).mem_iff, mem_pick]
    have lt : ∀ m i : Nat, m < 2 ^ some.length → m - 2 ^ i < 2 ^ some.length := fun m i h => Nat.lt_of_le_of_lt (Nat.sub_le _ _) h
    constructor
    · rintro ⟨m, hm, hl, rfl⟩
      rw [heavyM, Bool.and_eq_true, Bool.not_eq_true', List.any_eq_false] at hl
      refine ⟨memb_sub _ _ _, (t.is m hm).mp hl.1, fun L' s' h' hs x hx => Classical.byContradiction fun q => ?_⟩
      obtain ⟨m', hm', rfl⟩ := memb_of (z := z) s' nd
      obtain ⟨i, hi, hb', e⟩ := mem_memb.mp hx
      have h2 := hl.2 i (List.mem_filter.mpr ⟨List.mem_range.mpr hi, hb'⟩)
      refine h2 ((t.is _ (lt m i hm)).mpr (t.mono m' _ hm' (lt m i hm) (fun j hj => ?_) h'))
      rw [bit_sub i m hb', (memb_subset nd hm').mp hs j hj, Bool.true_and, Bool.not_eq_true', decide_eq_false_iff_not]
      rintro rfl
      exact q (mem_memb.mpr ⟨j, hi, hj, e⟩)
    · rintro ⟨s, h1, h2⟩
      obtain ⟨m, hm, rfl⟩ := memb_of (z := z) s nd
      refine ⟨m, hm, ?_, rfl⟩
      rw [heavyM, Bool.and_eq_true, Bool.not_eq_true', List.any_eq_false]
      refine ⟨(t.is m hm).mpr h1, fun i hi w => ?_⟩
      rw [List.mem_filter, List.mem_range] at hi
      have h3 := h2 (memb z some (m - 2 ^ i)) (memb_sub _ _ _) ((t.is _ (lt m i hm)).mp w) ((memb_subset nd (lt m i hm)).mpr fun j hj => by
        rw [bit_sub i m hi.2, Bool.and_eq_true] at hj
        exact hj.1) some[i] (mem_memb.mpr ⟨i, hi.1, hi.2, rfl⟩)
      obtain ⟨j, hj, hb', e⟩ := mem_memb.mp h3
      rw [nodup_get nd hj hi.1 e, bit_sub i m hi.2] at hb'
      simp at hb'
end
end PD
set_option Elab.async false
set_option linter.all false
set_option maxRecDepth 100000
set_option maxHeartbeats 4000000
/-! Masks of sides, and the packers: bits, members, one packer's answer. -/
namespace PD
open PySem PySem.Spec PyProof.Rows L2
def bitsL (n : Nat) : List Int := (List.range n).map fun i => ((2 ^ i : Nat) : Int)
def c_bits_of : Con := fun ds κ R => ∃ n : Nat, ds = [.int (n : Nat)] ∧ n ≤ 20 ∧ R (lN (bitsL n)) κ
def c_members : Con := fun ds κ R => ∃ (xs : List D) (m : Nat), ds = [.lst xs, .int (m : Nat)] ∧ xs.length ≤ 20 ∧ R (.lst (memb .non xs m)) κ
/-! ### packers -/
def memoKv (ms : List (List Int × Bool)) : List (D × D) := ms.map fun p => (tI p.1, .bl p.2)
def pkF (ws rooms : List Int) (kd : Nat) : List (Str × D) := [("its_weights", lN ws), ("its_rooms", lN rooms), ("its_answers", .cell kd)]
def MemoOk (ws : List Int) (ms : List (List Int × Bool)) : Prop := ∀ p ∈ ms, p.2 = true ↔ PackR ws p.1
def c_Packer_init : Con := fun ds κ R => ∃ (k : Nat) (ws rooms : List Int), ds = [.cell k, lN ws, lN rooms] ∧ κ[k]? = some (some (.obj "Packer" [])) ∧ R .non (κ.set k (some (.obj "Packer" (pkF ws rooms κ.length))) ++ [some (.dic [])])
def c_Packer_is_heavy : Con := fun ds κ R => ∃ (k m : Nat) (ws rooms : List Int) (kd : Nat) (memo : List (List Int × Bool)), ds = [.cell k, .int (m : Nat)] ∧ κ[k]? = some (some (.obj "Packer" (pkF ws rooms kd))) ∧ κ[kd]? = some (some (.dic (memoKv memo))) ∧
  MemoOk ws memo ∧ memo.length ≤ 100000 ∧ 1 ≤ ws.length ∧ ws.length ≤ 7 ∧ (∀ w ∈ ws, 0 ≤ w) ∧ rooms.length ≤ 20 ∧ (∀ r ∈ rooms, 0 ≤ r) ∧
  ∀ (b : Bool) (memo' : List (List Int × Bool)), (b = true ↔ PackR ws (memb 0 rooms m)) → MemoOk ws memo' → memo'.length ≤ memo.length + 1 → R (.bl b) (κ.set kd (some (.dic (memoKv memo'))))
abbrev N_bits_of : List Str := ["many", "found", "index"]
abbrev P_bits_of : List Str := ["many"]
@[reducible] def t_bits_of : AS :=
  (aSeq (aAsg (aCell (aLst aNil)) (aName 1))
  (aSeq (aFor (aRng1 (aCons (aVar 0) aNil)) (aName 2)
  (aDrop (aApp (aVar 1) (aIf (aTest (aOp dEq (aVar 1) (aData (aLst aNil)))) (aC (.int 1)) (aOp dMul (aC (.int 2)) (aOp dIx (aVar 1) (aUn dNeg (aC (.int 1)))))))))
  (aFrzV 1 (aRet (aVar 1)))))
abbrev N_members : List Str := ["items", "mask", "item", "bit"]
abbrev P_members : List Str := ["items", "mask"]
@[reducible] def t_members : AS :=
  (aRet (aData (aComp (aZipM (aCons (aVar 0) (aCons (aCB c_bits_of (aCons (aCB dLen (aCons (aVar 0) aNil)) aNil)) aNil))) (aGTup 2 (aGCons (aName 2) (aGCons (aName 3) aGNil))) (aTest (aOp dNe (aOp dBand (aVar 1) (aVar 3)) (aC (.int 0)))) (aVar 2) [2, 3])))
abbrev N_Packer_init : List Str := ["self", "weights", "rooms"]
abbrev P_Packer_init : List Str := ["self", "weights", "rooms"]
@[reducible] def t_Packer_init : AS :=
  (aSeq (aSetF "Packer" "its_weights" (aVar 0) (aVar 1))
  (aSeq (aSetF "Packer" "its_rooms" (aVar 0) (aVar 2))
  (aSetF "Packer" "its_answers" (aVar 0) aDicNew)))
abbrev N_Packer_is_heavy : List Str := ["self", "mask", "tops"]
abbrev P_Packer_is_heavy : List Str := ["self", "mask"]
@[reducible] def t_Packer_is_heavy : AS :=
  (aSeq (aAsg (aCB dTuple (aCons (aSl (aSortR (aCB c_members (aCons (aFld "Packer" "its_rooms" (aVar 0)) (aCons (aVar 1) aNil)))) aNoPart (aPart (aCB dLen (aCons (aFld "Packer" "its_weights" (aVar 0)) aNil)))) aNil)) (aName 2))
  (aSeq (aIfS (aTest (aOp (dInN not) (aVar 2) (aFld "Packer" "its_answers" (aVar 0)))) (aAsg (aCB c_can_pack (aCons (aFld "Packer" "its_weights" (aVar 0)) (aCons (aData (aList (aVar 2))) aNil))) (aSubD (aFld "Packer" "its_answers" (aVar 0)) (aVar 2))) aNext)
  (aRet (aOp dGetN (aFld "Packer" "its_answers" (aVar 0)) (aVar 2)))))
theorem l_bits_of : ∀ ds κ R, c_bits_of ds κ R → ds.length = P_bits_of.length := by
  rintro ds κ R ⟨_, rfl, _⟩
  rfl
theorem l_members : ∀ ds κ R, c_members ds κ R → ds.length = P_members.length := by
  rintro ds κ R ⟨_, _, rfl, _⟩
  rfl
theorem l_Packer_init : ∀ ds κ R, c_Packer_init ds κ R → ds.length = P_Packer_init.length := by
  rintro ds κ R ⟨_, _, _, rfl, _⟩
  rfl
theorem l_Packer_is_heavy : ∀ ds κ R, c_Packer_is_heavy ds κ R → ds.length = P_Packer_is_heavy.length := by
  rintro ds κ R ⟨_, _, _, _, _, _, rfl, _⟩
  rfl
theorem bits_succ (n : Nat) : bitsL (n + 1) = bitsL n ++ [((2 ^ n : Nat) : Int)] := by
  rw [bitsL, bitsL, List.range_succ, List.map_append]
  rfl
theorem bits_len (n : Nat) : (bitsL n).length = n := by rw [bitsL, List.length_map, List.length_range]
theorem bits_last (n : Nat) : atI ((bitsL (n + 1)).map D.int) (-1) = some (.int ((2 ^ n : Nat) : Int)) := by
  rw [atI_last (by rw [List.length_map, bits_len]; omega)]
  congr 1
  simp only [List.getElem_map, bitsL, List.length_map, List.length_range, List.getElem_range]
  rw [Nat.add_sub_cancel]
theorem b_bits_of : Body N_bits_of t_bits_of c_bits_of := by
  rintro ds κ R co ⟨n, rfl, hn, h⟩
  simp [-Bool.exists_bool, start, List.replicate]
  refine ⟨by omega, ?_⟩
  refine loop_rng (fun i ρ κ' => κ' = κ ++ [some (.lst ((bitsL i).map D.int))] ∧ ∃ x, ρ = [some (.int (n : Nat)), some (.cell κ.length), x]) ⟨rfl, _, rfl⟩ ?_ ?_
  · rintro i ρ κ' hi ⟨rfl, x, rfl⟩ Z hZ
    simp [-Bool.exists_bool]
    refine use_eqC (f := D.int) (ys := []) eqF_int (by omega) (own_get rfl) ?_
    refine ⟨_, rfl, ?_⟩
    cases i with
    | zero =>
      rw [if_pos (by rfl)]
      exact ⟨_, own_get rfl, by simp [bitsL], by rw [own_set rfl]; exact hZ _ _ ⟨rfl, _, rfl⟩⟩
    | succ i =>
      rw [if_neg (by rw [bits_succ]; simp)]
      refine ⟨_, (itAt_cell (own_get rfl)).trans (bits_last i), ?_⟩
      have e : (2 : Int) * ((2 ^ i : Nat) : Int) = ((2 ^ (i + 1) : Nat) : Int) := by rw [Nat.pow_succ]; omega
      simp only [e_mulI, cmL (i := 2) (by omega), true_and, e]
      refine ⟨_, own_get rfl, by rw [List.length_map, bits_len]; omega, ?_⟩
      rw [own_set rfl]
      refine hZ _ _ ⟨?_, _, rfl⟩
      rw [bits_succ (i + 1), List.map_append]
      rfl
  · rintro ρ κ' ⟨rfl, x, rfl⟩
    simp [-Bool.exists_bool, own_get rfl, own_set rfl]
    refine fin_app co ?_ h
    rw [blw]
    exact blws_map _ (fun _ => rfl) _
theorem zip_bits (xs : List D) : zipD xs ((bitsL xs.length).map D.int) = (List.range xs.length).map fun i => .tup [xs.getD i .non, .int ((2 ^ i : Nat) : Int)] := by
  have e := zipD_map (fun i => xs.getD i D.non) (fun i : Nat => D.int ((2 ^ i : Nat) : Int)) (List.range xs.length) (List.range xs.length)
  rw [range_getD] at e
  rw [bitsL, List.map_map, show (D.int ∘ fun i : Nat => ((2 ^ i : Nat) : Int)) = fun i : Nat => D.int ((2 ^ i : Nat) : Int) from rfl, e]
  have z : (List.range xs.length).zip (List.range xs.length) = (List.range xs.length).map fun i => (i, i) := by
    rw [← List.zip_map']
    simp
  rw [z, List.map_map]
  rfl
theorem b_members : Body N_members t_members c_members := by
  rintro ds κ R co ⟨xs, m, rfl, hn, h⟩
  simp [-Bool.exists_bool, start, List.replicate]
  refine ⟨xs.length, rfl, hn, ?_⟩
  show zipMK [.lst xs, .lst ((bitsL xs.length).map D.int)] κ _
  rw [zipMK_ll, zip_bits]
  refine comp_filt (b := fun i => xs.getD i D.non) (fun i => m.testBit i) (by simp; omega) (fun i hi Z Y h1 h2 => ?_) (.inl h)
  simp [-Bool.exists_bool, -List.getD_eq_getElem?_getD]
  have e : Builtin.bitAnd (m : Int) (2 ^ i) = 0 ↔ m.testBit i = false := by
    have e := and_bit m i
    rw [show ((2 ^ i : Nat) : Int) = (2 : Int) ^ i by simp] at e
    cases q : m.testBit i with
    | true =>
      rw [q] at e
      simpa using e
    | false =>
      rw [q] at e
      simpa using e
  split
  · rename_i q
    exact h2 (e.mp q)
  · rename_i q
    refine h1 ?_
    cases w : m.testBit i with
    | true => rfl
    | false => exact absurd (e.mpr w) q
theorem pkD2 {a b : D} : putD ("its_rooms" : Str) b [(("its_weights" : Str), a)] = [(("its_weights" : Str), a), (("its_rooms" : Str), b)] := rfl
theorem pkD3 {a b c : D} : putD ("its_answers" : Str) c [(("its_weights" : Str), a), (("its_rooms" : Str), b)] = [(("its_weights" : Str), a), (("its_rooms" : Str), b), (("its_answers" : Str), c)] := rfl
theorem b_Packer_init : Body N_Packer_init t_Packer_init c_Packer_init := by
  rintro ds κ R co ⟨k, ws, rooms, rfl, hk, h⟩
  have kl : k < κ.length := (List.getElem?_eq_some_iff.mp hk).1
  simp [-Bool.exists_bool, start, List.replicate]
  refine ⟨_, hk, by simp, ?_⟩
  rw [putD1]
  refine ⟨_, List.getElem?_set_self kl, by simp, ?_⟩
  rw [pkD2]
  refine ⟨[(("its_weights" : Str), lN ws), (("its_rooms" : Str), lN rooms)], ?_, by simp, ?_⟩
  · rw [List.getElem?_append_left (by rw [List.length_set]; exact kl), List.getElem?_set_self kl]
  · rw [pkD3, List.set_append_left _ _ (by rw [List.length_set]; exact kl), List.set_set]
    exact .inl h
theorem objOf_cell {κ : Cs} {k : Nat} {c : Str} {fs : List (Str × D)} (h : κ[k]? = some (some (.obj c fs))) : objOf κ (.cell k) = some (c, fs) := by
  rw [objOf, h]
theorem pk1 {ws rooms : List Int} {kd : Nat} : List.lookup ("its_weights" : Str) (pkF ws rooms kd) = some (lN ws) := rfl
theorem pk2 {ws rooms : List Int} {kd : Nat} : List.lookup ("its_rooms" : Str) (pkF ws rooms kd) = some (lN rooms) := rfl
theorem pk3 {ws rooms : List Int} {kd : Nat} : List.lookup ("its_answers" : Str) (pkF ws rooms kd) = some (.cell kd) := rfl
theorem hasK_memo (ms : List (List Int × Bool)) (t : List Int) : hasK (memoKv ms) (tI t) = decide (∃ b, (t, b) ∈ ms) := by
  rw [hasK, memoKv, List.any_map, Bool.eq_iff_iff, List.any_eq_true, decide_eq_true_eq]
  constructor
  · rintro ⟨q, hq, e⟩
    have := nk_tI_inj.mp (of_decide_eq_true e)
    exact ⟨q.2, this ▸ hq⟩
  · rintro ⟨b, h⟩
    exact ⟨_, h, decide_eq_true rfl⟩
theorem look_memo : ∀ {ms : List (List Int × Bool)} {t : List Int}, (∃ b, (t, b) ∈ ms) → ∃ b, (t, b) ∈ ms ∧ lookN (memoKv ms) (tI t) = some (.bl b)
  | [], _, h => by obtain ⟨b, h⟩ := h; cases h
  | p :: ms, t, h => by
    by_cases q : p.1 = t
    · refine ⟨p.2, by rw [← q]; simp, ?_⟩
      have e : decide (nkOf (tI p.1) = nkOf (tI t)) = true := decide_eq_true (by rw [q])
      simp only [lookN, memoKv, List.map_cons, List.find?_cons, e]
      rfl
    · obtain ⟨b, hb⟩ := h
      have hb' : (t, b) ∈ ms := by
        rcases List.mem_cons.mp hb with e | h
        · rw [← e] at q
          exact absurd rfl q
        · exact h
      obtain ⟨b', h1, h2⟩ := look_memo ⟨b, hb'⟩
      refine ⟨b', by simp [h1], ?_⟩
      have e : ¬decide (nkOf (tI p.1) = nkOf (tI t)) = true := fun z => q (nk_tI_inj.mp (of_decide_eq_true z))
      have e' := Bool.eq_false_iff.mpr e
      simp only [lookN, memoKv, List.map_cons, List.find?_cons, e']
      exact h2
theorem put_memo {ms : List (List Int × Bool)} {t : List Int} {b : Bool} (h : ¬∃ b, (t, b) ∈ ms) : putDic (memoKv ms) (tI t) (.bl b) = memoKv (ms ++ [(t, b)]) := by
  rw [putDic, hasK_memo, if_neg (by simpa using h), memoKv, memoKv, List.map_append]
  rfl
theorem e_inMemo {κ : Cs} {R : D → Cs → Prop} {f : Bool → Bool} {k : Nat} {ms : List (List Int × Bool)} {t : List Int} (h : κ[k]? = some (some (.dic (memoKv ms)))) (hR : R (.bl (f (decide (∃ b, (t, b) ∈ ms)))) κ) : dInN f (tI t) (.cell k) κ R :=
  ⟨_, _, h, nk_tI t, depth_tI t, by rw [hasK_memo]; exact hR⟩
theorem e_getMemo {κ : Cs} {R : D → Cs → Prop} {k : Nat} {ms : List (List Int × Bool)} {t : List Int} (h : κ[k]? = some (some (.dic (memoKv ms)))) (ht : ∃ b, (t, b) ∈ ms) (hR : ∀ b, (t, b) ∈ ms → R (.bl b) κ) : dGetN (.cell k) (tI t) κ R := by
  obtain ⟨b, h1, h2⟩ := look_memo ht
  exact ⟨_, _, _, h, nk_tI t, depth_tI t, h2, hR b h1⟩
theorem set_id {κ : Cs} {k : Nat} {c : Option Ce} (h : κ[k]? = some c) : κ.set k c = κ := by
  obtain ⟨hk, e⟩ := List.getElem?_eq_some_iff.mp h
  rw [← e]
  exact List.set_getElem_self hk
theorem b_Packer_is_heavy : Body N_Packer_is_heavy t_Packer_is_heavy c_Packer_is_heavy := by
  rintro ds κ R co ⟨k, m, ws, rooms, kd, memo, rfl, hk, hd, mo, hml, hw1, hw7, hw0, hrn, hr0, h⟩
  have hne : kd ≠ k := fun e => by rw [e, hk] at hd; cases hd
  simp [-Bool.exists_bool, start, List.replicate, objOf_cell hk, pk1, pk2, pk3, -List.lookup_eq_none_iff]
  refine ⟨rooms.map D.int, m, rfl, by rw [List.length_map]; exact hrn, ?_⟩
  rw [memb_map (z := (0 : Int))]
  refine sortRK_ints.mpr fun T pT hT => ?_
  have hT' : T.Pairwise (· ≥ ·) := hT
  have hmn : ∀ r ∈ memb 0 rooms m, 0 ≤ r := fun r hr => hr0 r ((memb_sub 0 rooms m).subset hr)
  have htop := packR_top (ws := ws) hmn pT hT'
  have hTl : (T.take ws.length).length ≤ 7 := by rw [List.length_take]; omega
  have hTn : ∀ r ∈ T.take ws.length, 0 ≤ r := fun r hr => hmn r (pT.mem_iff.mp (List.mem_of_mem_take hr))
  have e1 : cutD (T.map D.int) none (some (ws.length : Int)) = (T.take ws.length).map D.int := by rw [cut_hi, List.map_take]
  simp [-Bool.exists_bool, objOf_cell hk, pk1, pk2, pk3, -List.lookup_eq_none_iff, e1, -List.map_take]
  rw [← tI]
  generalize hS : T.take ws.length = S at *
  refine e_inMemo hd ?_
  by_cases q : ∃ b, (S, b) ∈ memo
  · refine ⟨_, rfl, ?_⟩
    rw [if_neg (by simp [q])]
    simp [-Bool.exists_bool, objOf_cell hk, pk1, pk2, pk3, -List.lookup_eq_none_iff]
    refine e_getMemo hd q fun b hb => .inl ?_
    have := h b memo ((mo _ hb).trans htop) mo (Nat.le_succ _)
    rwa [set_id hd] at this
  · refine ⟨_, rfl, ?_⟩
    rw [if_pos (by simp [q])]
    simp [-Bool.exists_bool, objOf_cell hk, pk1, pk2, pk3, -List.lookup_eq_none_iff]
    refine ⟨ws, S, rfl, hw1, hw7, hw0, by omega, hTn, fun b hb => ?_⟩
    simp [-Bool.exists_bool, objOf_cell hk, pk1, pk2, pk3, -List.lookup_eq_none_iff]
    refine ⟨_, hd, _, nk_tI S, depth_tI S, by rw [memoKv, List.length_map]; omega, ?_⟩
    rw [put_memo q]
    have kl : kd < κ.length := (List.getElem?_eq_some_iff.mp hd).1
    have hk2 : (κ.set kd (some (.dic (memoKv (memo ++ [(S, b)])))))[k]? = some (some (.obj "Packer" (pkF ws rooms kd))) := by
      rw [List.getElem?_set_ne hne]
      exact hk
    simp [-Bool.exists_bool, objOf_cell hk2, pk1, pk2, pk3, -List.lookup_eq_none_iff]
    refine e_getMemo (List.getElem?_set_self kl) ⟨b, by simp⟩ fun b' hb' => .inl ?_
    have eb : b' = b := by
      rcases List.mem_append.mp hb' with hm | hm
      · exact absurd ⟨_, hm⟩ q
      · simpa using hm
    subst eb
    refine h b' _ (hb.trans htop) (fun p hp => ?_) (by simp)
    rcases List.mem_append.mp hp with hm | hm
    · exact mo p hm
    · rw [List.mem_singleton.mp hm]
      exact hb
end PD
set_option Elab.async false
set_option linter.all false
set_option maxRecDepth 100000
set_option maxHeartbeats 4000000
/-! Tables of heavy masks; light and heavy sets. -/
namespace PD
open PySem PySem.Spec PyProof.Rows L2
abbrev Cse := List Int × List Int
def caseD (c : Cse) : D := .tup [lN c.1, lN c.2]
structure CaseOk (n : Nat) (c : Cse) : Prop where
  w1 : 1 ≤ c.1.length
  w7 : c.1.length ≤ 7
  w0 : ∀ w ∈ c.1, 0 ≤ w
  len : c.2.length = n
  r0 : ∀ r ∈ c.2, 0 ≤ r
def heavyAt (cases : List Cse) (m : Nat) : Prop := ∃ c ∈ cases, PackR c.1 (memb 0 c.2 m)
def c_heavy_masks : Con := fun ds κ R => ∃ (cases : List Cse) (n : Nat), ds = [.lst (cases.map caseD), .int (n : Nat)] ∧ n ≤ 12 ∧ cases.length ≤ 1000 ∧ (∀ c ∈ cases, CaseOk n c) ∧
  ∀ hb : Nat → Bool, (∀ m, m < 2 ^ n → (hb m = true ↔ heavyAt cases m)) → R (.lst ((List.range (2 ^ n)).map fun m => .bl (hb m))) κ
abbrev N_heavy_masks : List Str := ["cases", "many", "packers", "weights", "rooms", "bits", "found", "mask", "below", "bit", "packer"]
abbrev P_heavy_masks : List Str := ["cases", "many"]
@[reducible] def t_heavy_masks : AS :=
  (aSeq (aAsg (aData (aComp (aIt (aVar 0)) (aGTup 2 (aGCons (aName 3) (aGCons (aName 4) aGNil))) aYes (aMake "Packer" c_Packer_init (aCons (aVar 3) (aCons (aVar 4) aNil))) [3, 4])) (aName 2))
  (aSeq (aAsg (aTup (aCons (aCB c_bits_of (aCons (aVar 1) aNil)) (aCons (aCell (aLst (aCons (aC (.bl false)) aNil))) aNil))) (aGTup 2 (aGCons (aName 5) (aGCons (aName 6) aGNil))))
  (aSeq (aFor (aRng2 (aCons (aC (.int 1)) (aCons (aIf (aTest (aOp dNe (aVar 5) (aData (aLst aNil)))) (aOp dMul (aC (.int 2)) (aOp dIx (aVar 5) (aUn dNeg (aC (.int 1))))) (aC (.int 1))) aNil))) (aName 7)
  (aSeq (aAsg (aCB dAny (aCons (aData (aComp (aIt (aVar 5)) (aName 9) (aTest (aOp dNe (aOp dBand (aVar 7) (aVar 9)) (aC (.int 0)))) (aOp dIx (aVar 6) (aOp dSub (aVar 7) (aVar 9))) [9])) aNil)) (aName 8))
  (aDrop (aApp (aVar 6) (aOrV (aVar 8) (aCB dAny (aCons (aData (aComp (aIt (aVar 2)) (aName 10) aYes (aMeth "Packer" "is_heavy" c_Packer_is_heavy (aVar 10) (aCons (aVar 7) aNil)) [10])) aNil)))))))
  (aFrzV 6 (aRet (aVar 6))))))
theorem l_heavy_masks : ∀ ds κ R, c_heavy_masks ds κ R → ds.length = P_heavy_masks.length := by
  rintro ds κ R ⟨_, _, rfl, _⟩
  rfl
theorem comp_ix {β : Type} {g : AG} {te : AE} {ρ : Rho} {n : Nat} {h : Nat → D} {b : β → D} {κ : Cs} {R : List D → Cs → Prop} (P : Nat → β → Prop) (J : Nat → Cs → Prop) (h0 : J 0 κ) (hn : n ≤ 16777216)
    (hs : ∀ (i : Nat) κ, i < n → J i κ → ∀ Z : D → Cs → Prop, (∀ z κ', P i z → J (i + 1) κ' → Z (b z) κ') → g (h i) ρ κ fun ρ2 κ2 => te ρ2 κ2 Z)
    (he : ∀ (zs : List β) κ, zs.length = n → (∀ (i : Nat) z, zs[i]? = some z → P i z) → J n κ → R (zs.map b) κ) : compL g aYes te ρ ((List.range n).map h) [] κ R := by
  refine comp_inv (fun ds acc κ' => ∃ zs : List β, ds = (List.range' zs.length (n - zs.length)).map h ∧ acc = zs.map b ∧ zs.length ≤ n ∧ (∀ (i : Nat) z, zs[i]? = some z → P i z) ∧ J zs.length κ') ⟨[], by rw [List.range_eq_range']; rfl, rfl, Nat.zero_le _, by simp, h0⟩ ?_ ?_
  · rintro d ds acc κ' ⟨zs, e1, rfl, hl, hP, hJ⟩ Z hZ
    have hlt : zs.length < n := by
      refine Classical.byContradiction fun q => ?_
      rw [show n - zs.length = 0 by omega] at e1
      simp at e1
    rw [show n - zs.length = (n - zs.length - 1) + 1 by omega, List.range'_succ, List.map_cons] at e1
    injection e1 with e1 e2
    subst e1 e2
    show g (h zs.length) ρ κ' fun ρ2 κ2 => te ρ2 κ2 fun y κ4 => (zs.map b).length < 16777216 ∧ Z (zs.map b ++ [y]) κ4
    refine hs zs.length κ' hlt hJ _ fun z κ2 hz hj => ⟨by rw [List.length_map]; omega, hZ _ _ ⟨zs ++ [z], ?_, by simp, by simp; omega, fun i y hy => ?_, by simpa using hj⟩⟩
    · rw [List.length_append]
      rfl
    · rcases Nat.lt_or_ge i zs.length with q | q
      · rw [List.getElem?_append_left q] at hy
        exact hP i y hy
      · rw [List.getElem?_append_right q] at hy
        cases hi : i - zs.length with
        | zero =>
          rw [hi] at hy
          have : i = zs.length := by omega
          subst this
          simp at hy
          subst hy
          exact hz
        | succ k =>
          rw [hi] at hy
          simp at hy
  · rintro acc κ' ⟨zs, e1, rfl, hl, hP, hJ⟩
    have hl' : zs.length = n := by
      refine Classical.byContradiction fun q => ?_
      rw [show n - zs.length = (n - zs.length - 1) + 1 by omega, List.range'_succ, List.map_cons] at e1
      cases e1
    exact he zs κ' hl' hP (by rwa [hl'] at hJ)
theorem map_range {α : Type} (z : α) (f : α → D) (xs : List α) : xs.map f = (List.range xs.length).map fun i => f (xs.getD i z) := by
  conv => lhs; rw [← range_getD z xs, List.map_map]
  rfl
/-- the packers of some cases, in the cells l behind b -/
def PkOk (b : Nat) (cases : List Cse) (N : Nat → Nat) (k : Nat) (l : Cs) : Prop := ∀ j, j < k → ∃ c, cases[j]? = some c ∧ l[2 * j]? = some (some (.obj "Packer" (pkF c.1 c.2 (b + (2 * j + 1))))) ∧ ∃ memo, l[2 * j + 1]? = some (some (.dic (memoKv memo))) ∧ MemoOk c.1 memo ∧ memo.length ≤ N j
theorem pk_app {b : Nat} {cases : List Cse} {N : Nat → Nat} {k : Nat} {l l' : Cs} (hl : 2 * k ≤ l.length) (h : PkOk b cases N k l) : PkOk b cases N k (l ++ l') := fun j hj => by
  obtain ⟨c, h1, h2, memo, h3, h4⟩ := h j hj
  exact ⟨c, h1, by rw [List.getElem?_append_left (by omega)]; exact h2, memo, by rw [List.getElem?_append_left (by omega)]; exact h3, h4⟩
theorem pk_set {b : Nat} {cases : List Cse} {N : Nat → Nat} {k i : Nat} {l : Cs} {x : Option Ce} (hi : 2 * k ≤ i) (h : PkOk b cases N k l) : PkOk b cases N k (l.set i x) := fun j hj => by
  obtain ⟨c, h1, h2, memo, h3, h4⟩ := h j hj
  exact ⟨c, h1, by rw [List.getElem?_set_ne (by omega)]; exact h2, memo, by rw [List.getElem?_set_ne (by omega)]; exact h3, h4⟩
theorem pk_memo {b : Nat} {cases : List Cse} {N N' : Nat → Nat} {k i : Nat} {l : Cs} {c : Cse} {memo : List (List Int × Bool)} (hi : i < k) (hc : cases[i]? = some c) (hl : 2 * k ≤ l.length) (hN : ∀ j, j ≠ i → N j ≤ N' j) (hm : MemoOk c.1 memo) (hn : memo.length ≤ N' i) (h : PkOk b cases N k l) : PkOk b cases N' k (l.set (2 * i + 1) (some (.dic (memoKv memo)))) := fun j hj => by
  obtain ⟨c', h1, h2, memo', h3, h4, h5⟩ := h j hj
  by_cases q : j = i
  · subst q
    have ec : c' = c := Option.some.inj (h1.symm.trans hc)
    rw [ec] at h1 h2
    exact ⟨c, h1, by rw [List.getElem?_set_ne (by omega)]; exact h2, memo, List.getElem?_set_self (by omega), hm, hn⟩
  · exact ⟨c', h1, by rw [List.getElem?_set_ne (by omega)]; exact h2, memo', by rw [List.getElem?_set_ne (by omega)]; exact h3, h4, Nat.le_trans h5 (hN j q)⟩
theorem heavy_mono {n : Nat} {cases : List Cse} (hco : ∀ c ∈ cases, CaseOk n c) {m m' : Nat} (h : ∀ i, m.testBit i = true → m'.testBit i = true) (hv : heavyAt cases m) : heavyAt cases m' := by
  obtain ⟨c, hc, p⟩ := hv
  exact ⟨c, hc, packR_sub (fun r hr => (hco c hc).r0 r ((memb_sub 0 c.2 m').subset hr)) (memb_mono h) p⟩
theorem heavy_zero {n : Nat} {cases : List Cse} (hco : ∀ c ∈ cases, CaseOk n c) : ¬heavyAt cases 0 := by
  rintro ⟨c, hc, p⟩
  have e : memb 0 c.2 0 = [] := by
    rw [memb, List.map_eq_nil_iff, List.filter_eq_nil_iff]
    intro i _
    simp
  rw [e] at p
  obtain ⟨fs, p⟩ := p
  have hl := p.len
  have := (hco c hc).w1
  have := p.lt _ (List.getElem_mem (show 0 < fs.length by omega))
  simp at this
@[reducible] def bodyHM : AS := (aSeq (aAsg (aCB dAny (aCons (aData (aComp (aIt (aVar 5)) (aName 9) (aTest (aOp dNe (aOp dBand (aVar 7) (aVar 9)) (aC (.int 0)))) (aOp dIx (aVar 6) (aOp dSub (aVar 7) (aVar 9))) [9])) aNil)) (aName 8))
  (aDrop (aApp (aVar 6) (aOrV (aVar 8) (aCB dAny (aCons (aData (aComp (aIt (aVar 2)) (aName 10) aYes (aMeth "Packer" "is_heavy" c_Packer_is_heavy (aVar 10) (aCons (aVar 7) aNil)) [10])) aNil))))))
theorem lk9 {ws rooms : List Int} {kd : Nat} : List.lookup ("is_heavy" : Str) (pkF ws rooms kd) = none := rfl
def tabB (hb : Nat → Bool) (n : Nat) : List D := (List.range n).map fun m => .bl (hb m)
theorem tab_succ (hb : Nat → Bool) (n : Nat) : tabB hb (n + 1) = tabB hb n ++ [.bl (hb n)] := by
  rw [tabB, tabB, List.range_succ, List.map_append]
  rfl
theorem tab_at {hb : Nat → Bool} {n m : Nat} (h : m < n) : atI (tabB hb n) (m : Int) = some (.bl (hb m)) := by
  rw [tabB, atI_map (by rwa [List.length_range]), List.getElem_range]
theorem band_iff {m j : Nat} : Builtin.bitAnd (m : Int) ((2 ^ j : Nat) : Int) = 0 ↔ m.testBit j = false := by
  have e := and_bit m j
  cases q : m.testBit j with
  | true =>
    rw [q] at e
    simpa using e
  | false =>
    rw [q] at e
    simpa using e
theorem band_not {m j : Nat} (h : ¬Builtin.bitAnd (m : Int) ((2 ^ j : Nat) : Int) = 0) : m.testBit j = true := by
  cases w : m.testBit j with
  | true => rfl
  | false => exact absurd (band_iff.mpr w) h
theorem masks_loop {cases : List Cse} {n : Nat} (hn : n ≤ 12) (hcn : cases.length ≤ 1000) (hco : ∀ c ∈ cases, CaseOk n c) {hb : Nat → Bool} (hhb : ∀ m, m < 2 ^ n → (hb m = true ↔ heavyAt cases m)) {A : AEnds} {κ l : Cs} {X N : D} {x3 x4 x7 x8 x9 x10 : Option D}
    (hl : l.length = 2 * cases.length) (hp : PkOk κ.length cases (fun _ => 0) cases.length l)
    (he : ∀ ρ l', (∃ x7 x8, ρ = [some X, some N, some (.lst ((List.range cases.length).map fun i => D.cell (κ.length + 2 * i))), x3, x4, some (lN (bitsL n)), some (.cell (κ.length + 2 * cases.length)), x7, x8, x9, x10]) → l'.length = 2 * cases.length → A.nx ρ (κ ++ (l' ++ [some (.lst (tabB hb (2 ^ n)))]))) :
    aLoop (aName 7) bodyHM (rangeD 1 (2 ^ n - 1)) A [some X, some N, some (.lst ((List.range cases.length).map fun i => D.cell (κ.length + 2 * i))), x3, x4, some (lN (bitsL n)), some (.cell (κ.length + 2 * cases.length)), x7, x8, x9, x10] (κ ++ (l ++ [some (.lst [.bl false])])) := by
  have h4 : 2 ^ n ≤ 4096 := Nat.pow_le_pow_right (n := 2) (by decide) hn
  have h1n : 0 < 2 ^ n := Nat.two_pow_pos n
  have hb0 : hb 0 = false := by
    cases q : hb 0 with
    | false => rfl
    | true => exact absurd ((hhb 0 h1n).mp q) (heavy_zero hco)
  have e0 : [D.bl false] = tabB hb 1 := by rw [tabB]; simp [hb0]
  rw [e0]
  refine loop_rng (fun i ρ κ' => ∃ l', κ' = κ ++ (l' ++ [some (.lst (tabB hb (i + 1)))]) ∧ l'.length = 2 * cases.length ∧ PkOk κ.length cases (fun _ => i) cases.length l' ∧
    ∃ x7 x8, ρ = [some X, some N, some (.lst ((List.range cases.length).map fun i => D.cell (κ.length + 2 * i))), x3, x4, some (lN (bitsL n)), some (.cell (κ.length + 2 * cases.length)), x7, x8, x9, x10]) ⟨l, rfl, hl, hp, _, _, rfl⟩ ?_ ?_
  · rintro i ρ κ' hi ⟨l', rfl, hl', hp', y7, y8, rfl⟩ Z hZ
    have e1 : (1 : Int) + (i : Nat) = ((i + 1 : Nat) : Int) := by omega
    have him : i + 1 < 2 ^ n := by omega
    have gf : (κ ++ (l' ++ [some (Ce.lst (tabB hb (i + 1)))]))[κ.length + 2 * cases.length]? = some (some (.lst (tabB hb (i + 1)))) := by
      rw [get_loc, ← hl', own_get rfl]
    rw [e1]
    simp [-Bool.exists_bool, -Int.natCast_add,]
    have eb : (bitsL n).map D.int = (List.range n).map fun j => D.int ((2 ^ j : Nat) : Int) := by rw [bitsL, List.map_map]; rfl
    rw [eb]
    refine comp_filt (b := fun j => D.bl (hb (i + 1 - 2 ^ j))) (fun j => (i + 1).testBit j) (by simp; omega) (fun j hj Z' Y' h1 h2 => ?_) ?_
    · simp [-Bool.exists_bool, -Int.natCast_add, -Int.natCast_pow]
      split
      · rename_i q
        exact h2 (band_iff.mp q)
      · rename_i q
        have hbj := band_not q
        have hle := bit_le hbj
        have e3 : ((i + 1 : Nat) : Int) - ((2 ^ j : Nat) : Int) = ((i + 1 - 2 ^ j : Nat) : Int) := by omega
        rw [e3]
        have := Nat.two_pow_pos j
        exact ⟨_, (itAt_cell gf).trans (tab_at (by omega)), h1 hbj⟩
    · have ea : ((List.range n).filter fun j => (i + 1).testBit j).map (fun j => D.bl (hb (i + 1 - 2 ^ j))) = (((List.range n).filter fun j => (i + 1).testBit j).map fun j => hb (i + 1 - 2 ^ j)).map D.bl := by
        rw [List.map_map]
        rfl
      rw [ea]
      refine e_any ⟨⟨_, gf⟩, _, rfl, ?_⟩
      have fin : ∀ (l2 : Cs) (x : D), l2.length = 2 * cases.length → PkOk κ.length cases (fun _ => i + 1) cases.length l2 → (∃ ds, (κ ++ (l2 ++ [some (Ce.lst (tabB hb (i + 1)))]))[κ.length + 2 * cases.length]? = some (some (.lst ds)) ∧ ds.length < 16777216 ∧
          Z [some X, some N, some (.lst ((List.range cases.length).map fun i => D.cell (κ.length + 2 * i))), x3, x4, some (lN (bitsL n)), some (.cell (κ.length + 2 * cases.length)), some (.int ((i + 1 : Nat) : Int)), some x, x9, x10]
            ((κ ++ (l2 ++ [some (Ce.lst (tabB hb (i + 1)))])).set (κ.length + 2 * cases.length) (some (.lst (ds ++ [.bl (hb (i + 1))]))))) := by
        intro l2 x hl2 hp2
        refine ⟨tabB hb (i + 1), by rw [get_loc, ← hl2, own_get rfl], by rw [tabB, List.length_map, List.length_range]; omega, ?_⟩
        rw [set_loc, ← hl2, own_set rfl, ← tab_succ]
        exact hZ _ _ ⟨l2, rfl, hl2, hp2, _, _, by rw [hl2]⟩
      have up : ∀ N' : Nat → Nat, PkOk κ.length cases N' cases.length l' → True := fun _ _ => trivial
      by_cases q : (((List.range n).filter fun j => (i + 1).testBit j).map fun j => hb (i + 1 - 2 ^ j)).any id = true
      · rw [if_pos q]
        have hm : hb (i + 1) = true := by
          rw [List.any_map, List.any_eq_true] at q
          obtain ⟨j, hj, hq⟩ := q
          have hj := (List.mem_filter.mp hj).2
          have hq : hb (i + 1 - 2 ^ j) = true := hq
          exact (hhb _ him).mpr (heavy_mono hco (fun k hk => by
            rw [bit_sub j (i + 1) hj, Bool.and_eq_true] at hk
            exact hk.1) ((hhb _ (Nat.lt_of_le_of_lt (Nat.sub_le _ _) him)).mp hq))
        have f1 := fin l' (.bl ((((List.range n).filter fun j => (i + 1).testBit j).map fun j => hb (i + 1 - 2 ^ j)).any id)) hl' fun j hj => by
          obtain ⟨c, g1, g2, memo, g3, g4, g5⟩ := hp' j hj
          exact ⟨c, g1, g2, memo, g3, g4, Nat.le_succ_of_le g5⟩
        rwa [hm] at f1
      · rw [if_neg q]
        refine comp_ix (b := D.bl) (fun j b => ∃ c, cases[j]? = some c ∧ (b = true ↔ PackR c.1 (memb 0 c.2 (i + 1)))) (fun d κ' => ∃ l2, κ' = κ ++ (l2 ++ [some (Ce.lst (tabB hb (i + 1)))]) ∧ l2.length = 2 * cases.length ∧ PkOk κ.length cases (fun j => i + if j < d then 1 else 0) cases.length l2) ⟨l', rfl, hl', by simpa using hp'⟩ (by omega) ?_ ?_
        · rintro d κ' hd ⟨l2, rfl, hl2, hp2⟩ Z' hZ'
          obtain ⟨c, g1, g2, memo, g3, g4, g5⟩ := hp2 d hd
          have hc : c ∈ cases := List.mem_of_getElem? g1
          have gk : (κ ++ (l2 ++ [some (Ce.lst (tabB hb (i + 1)))]))[κ.length + 2 * d]? = some (some (.obj "Packer" (pkF c.1 c.2 (κ.length + (2 * d + 1))))) := by
            rw [get_loc, List.getElem?_append_left (by omega)]
            exact g2
          have gd : (κ ++ (l2 ++ [some (Ce.lst (tabB hb (i + 1)))]))[κ.length + (2 * d + 1)]? = some (some (.dic (memoKv memo))) := by
            rw [get_loc, List.getElem?_append_left (by omega)]
            exact g3
          have o := hco c hc
          simp [-Bool.exists_bool, -Int.natCast_add, objOf_cell gk, lk9, -List.lookup_eq_none_iff]
          simp only [Nat.lt_irrefl, if_false] at g5
          refine ⟨_, i + 1, c.1, c.2, _, memo, rfl, gk, gd, g4, by omega, o.w1, o.w7, o.w0, by rw [o.len]; omega, o.r0, fun b memo' hb' hm' hn' => ?_⟩
          rw [set_loc, List.set_append_left _ _ (by omega)]
          refine hZ' _ _ ⟨c, g1, hb'⟩ ⟨_, rfl, by rw [List.length_set]; exact hl2, pk_memo hd g1 (by omega) (fun j hj => ?_) hm' ?_ hp2⟩
          · by_cases h3 : j < d
            · rw [if_pos h3, if_pos (by omega)]
              exact Nat.le_refl _
            · rw [if_neg h3]
              omega
          · rw [if_pos (by omega)]
            omega
        · rintro bs κ' hbl hbs ⟨l2, rfl, hl2, hp2⟩
          have ev : bs.any id = hb (i + 1) := by
            rw [Bool.eq_iff_iff, List.any_eq_true, hhb _ him]
            constructor
            · rintro ⟨b, hb1, hb2⟩
              obtain ⟨j, hj, e⟩ := List.getElem_of_mem hb1
              obtain ⟨c, g1, g2⟩ := hbs j b (by rw [← e]; exact List.getElem?_eq_getElem hj)
              exact ⟨c, List.mem_of_getElem? g1, g2.mp hb2⟩
            · rintro ⟨c, hc, p⟩
              obtain ⟨j, hj, e⟩ := List.getElem_of_mem hc
              obtain ⟨c', g1, g2⟩ := hbs j bs[j] (List.getElem?_eq_getElem (by omega))
              have ec : c' = c := by
                rw [List.getElem?_eq_getElem hj, e] at g1
                exact (Option.some.inj g1).symm
              rw [ec] at g2
              exact ⟨bs[j], List.getElem_mem _, g2.mpr p⟩
          refine e_any ?_
          rw [ev]
          refine fin l2 _ hl2 fun j hj => ?_
          obtain ⟨c, g1, g2, memo, g3, g4, g5⟩ := hp2 j hj
          have g5 : memo.length ≤ i + if j < cases.length then 1 else 0 := g5
          rw [if_pos hj] at g5
          exact ⟨c, g1, g2, memo, g3, g4, g5⟩
  · rintro ρ κ' ⟨l', rfl, hl', hp', y7, y8, rfl⟩
    have := he _ l' ⟨y7, y8, rfl⟩ hl'
    rwa [show 2 ^ n - 1 + 1 = 2 ^ n by omega]
theorem b_heavy_masks : Body N_heavy_masks t_heavy_masks c_heavy_masks := by
  rintro ds κ R co ⟨cases, n, rfl, hn, hcn, hco, h⟩
  simp [-Bool.exists_bool, start, List.replicate]
  rw [map_range ([], []) caseD cases]
  refine comp_ix (b := fun k : Nat => D.cell k) (fun i z => z = κ.length + 2 * i) (fun i κ' => ∃ l, κ' = κ ++ l ∧ l.length = 2 * i ∧ PkOk κ.length cases (fun _ => 0) i l) ⟨[], by simp, rfl, fun j hj => by omega⟩ (by omega) ?_ ?_
  · rintro i κ' hi ⟨l, rfl, hl, hp⟩ Z hZ
    simp [-Bool.exists_bool, caseD, getD_lt hi, -List.getD_eq_getElem?_getD]
    refine ⟨κ.length + l.length, _, _, rfl, ?_, rfl, ?_⟩
    · rw [get_loc, own_get rfl]
    · refine hZ _ _ (by rw [hl]) ⟨l ++ [some (.obj "Packer" (pkF cases[i].1 cases[i].2 (κ.length + (2 * i + 1)))), some (.dic [])], ?_, by simp [hl]; omega, fun j hj => ?_⟩
      · rw [set_loc, own_set rfl, List.append_assoc, List.append_assoc, List.length_append, List.length_append, hl]
        rfl
      · by_cases q : j < i
        · exact pk_app (by omega) hp j q
        · have : j = i := by omega
          subst this
          refine ⟨_, List.getElem?_eq_getElem hi, ?_, [], ?_, (fun p hp => nomatch hp), Nat.le_refl _⟩
          · rw [← hl, get_loc0]
            rfl
          · rw [← hl, get_loc]
            rfl
  · rintro zs κ' hzl hzs ⟨l, rfl, hl, hp⟩
    have ez : zs = (List.range cases.length).map fun i => κ.length + 2 * i := by
      apply List.ext_getElem
      · simp [hzl]
      · intro i h1 h2
        rw [hzs i _ (List.getElem?_eq_getElem h1)]
        simp
    rw [ez, List.map_map]
    refine ⟨n, rfl, by omega, ?_⟩
    refine e_neL (b := []) |>.mpr ?_
    obtain ⟨hb, hhb⟩ : ∃ hb : Nat → Bool, ∀ m, hb m = true ↔ heavyAt cases m := by
      classical
      exact ⟨fun m => decide (heavyAt cases m), fun m => by simp⟩
    have hend := h hb fun m _ => hhb m
    refine ⟨_, rfl, ?_⟩
    have h1n : 0 < 2 ^ n := Nat.two_pow_pos n
    have h4 : 2 ^ n ≤ 4096 := Nat.pow_le_pow_right (n := 2) (by decide) hn
    rw [List.length_append, hl, List.append_assoc]
    have kend : ∀ (ρ : Rho) (l' : Cs), (∃ x7 x8, ρ = [some (D.lst (cases.map caseD)), some (D.int (n : Nat)), some (.lst ((List.range cases.length).map fun i => D.cell (κ.length + 2 * i))), none, none, some (lN (bitsL n)), some (.cell (κ.length + 2 * cases.length)), x7, x8, none, none]) → l'.length = 2 * cases.length →
        aFrzV 6 (aRet (aVar 6)) { nx := fun x κ' => Fin κ R D.non κ', rt := Fin κ R, bk := fun x x_1 => False, ct := fun x x_1 => False } ρ (κ ++ (l' ++ [some (.lst (tabB hb (2 ^ n)))])) := by
      rintro ρ l' ⟨x7, x8, rfl⟩ hl'
      have gf : (κ ++ (l' ++ [some (Ce.lst (tabB hb (2 ^ n)))]))[κ.length + 2 * cases.length]? = some (some (.lst (tabB hb (2 ^ n)))) := by
        rw [get_loc, ← hl', own_get rfl]
      simp [-Bool.exists_bool, gf, set_loc]
      refine fin_app co ?_ hend
      rw [blw, tabB]
      exact blws_map _ (fun _ => rfl) _
    rw [← map_range]
    by_cases q : n = 0
    · subst q
      rw [if_neg (by decide)]
      exact masks_loop hn hcn hco (fun m _ => hhb m) hl hp kend
    · obtain ⟨n, rfl⟩ : ∃ k, n = k + 1 := ⟨n - 1, by omega⟩
      have hne : ¬bitsL (n + 1) = [] := by rw [bits_succ]; simp
      rw [if_pos (by simp [hne])]
      refine ⟨_, bits_last n, ?_⟩
      have e : (2 : Int) * ((2 ^ n : Nat) : Int) = ((2 ^ (n + 1) : Nat) : Int) := by rw [Nat.pow_succ]; omega
      simp only [e_mulI, cmL (i := 2) (by omega), true_and, e]
      refine ⟨by omega, ?_⟩
      rw [show (((2 ^ (n + 1) : Nat) : Int) - 1).toNat = 2 ^ (n + 1) - 1 by omega]
      exact masks_loop hn hcn hco (fun m _ => hhb m) hl hp kend
end PD
set_option Elab.async false
set_option linter.all false
set_option maxRecDepth 100000
set_option maxHeartbeats 4000000
/-! Light and heavy sets of sides. -/
namespace PD
open PySem PySem.Spec PyProof.Rows L2
def cOf (c : Cse) : D := cO c.1 c.2
def HvS (cs : List Cse) (L : List Sd) : Prop := ∃ c ∈ cs, PackR c.1 (L.map (room c.1 c.2))
def SdOk (cs : List Cse) (ss : List Sd) : Prop := ∀ c ∈ cs, GoodC c.1 c.2 ∧ ∀ s ∈ ss, s.1 < c.2.length
abbrev zS : Sd := (0, true)
def c_heavy_table : Con := fun ds κ R => ∃ (cs : List Cse) (ss : List Sd), ds = [.lst (cs.map cOf), .lst (ss.map sideD)] ∧ SdOk cs ss ∧ ss.length ≤ 12 ∧ cs.length ≤ 1000 ∧ ∀ hb : Nat → Bool, MaskT (HvS cs) zS ss hb → R (.lst (tabB hb (2 ^ ss.length))) κ
def c_is_light : Con := fun ds κ R => ∃ (cs : List Cse) (ss : List Sd), ds = [.lst (cs.map cOf), .lst (ss.map sideD)] ∧ SdOk cs ss ∧ ss.length ≤ 1000 ∧ cs.length ≤ 1000 ∧ ∀ b : Bool, (b = true ↔ ¬HvS cs ss) → R (.bl b) κ
def c_light_sets : Con := fun ds κ R => ∃ (cs : List Cse) (ss : List Sd), ds = [.lst (cs.map cOf), .lst (ss.map sideD)] ∧ SdOk cs ss ∧ ss.Nodup ∧ ss.length ≤ 12 ∧ cs.length ≤ 1000 ∧ ∀ found, LightS sideD (HvS cs) (srt sideD ss) found → R (.lst (found.map (lF sideD))) κ
def c_heavy_sets : Con := fun ds κ R => ∃ (cs : List Cse) (ss : List Sd), ds = [.lst (cs.map cOf), .lst (ss.map sideD)] ∧ SdOk cs ss ∧ ss.Nodup ∧ ss.length ≤ 12 ∧ cs.length ≤ 1000 ∧ ∀ found, HeavyS sideD (HvS cs) (srt sideD ss) found → R (.lst (found.map (lF sideD))) κ
abbrev N_heavy_table : List Str := ["councils", "sides", "council"]
abbrev P_heavy_table : List Str := ["councils", "sides"]
@[reducible] def t_heavy_table : AS :=
  (aRet (aCB c_heavy_masks (aCons (aData (aComp (aIt (aVar 0)) (aName 2) aYes (aTup (aCons (aMeth "Council" "weights" c_Council_weights (aVar 2) aNil) (aCons (aCB c_rooms_of (aCons (aVar 2) (aCons (aVar 1) aNil))) aNil))) [2])) (aCons (aCB dLen (aCons (aVar 1) aNil)) aNil))))
abbrev N_is_light : List Str := ["councils", "sides", "council"]
abbrev P_is_light : List Str := ["councils", "sides"]
@[reducible] def t_is_light : AS :=
  (aRet (aNotV (aCB dAny (aCons (aData (aComp (aIt (aVar 0)) (aName 2) aYes (aCB c_can_pack (aCons (aMeth "Council" "weights" c_Council_weights (aVar 2) aNil) (aCons (aCB c_rooms_of (aCons (aVar 2) (aCons (aVar 1) aNil))) aNil))) [2])) aNil))))
abbrev N_light_sets : List Str := ["councils", "sides", "some", "heavy", "bits", "found", "mask", "bit"]
abbrev P_light_sets : List Str := ["councils", "sides"]
@[reducible] def t_light_sets : AS :=
  (aSeq (aAsg (aCB dSortD (aCons (aVar 1) aNil)) (aName 2))
  (aSeq (aAsg (aTup (aCons (aCB c_heavy_table (aCons (aVar 0) (aCons (aVar 2) aNil))) (aCons (aCB c_bits_of (aCons (aCB dLen (aCons (aVar 2) aNil)) aNil)) (aCons (aCell (aLst aNil)) aNil)))) (aGTup 3 (aGCons (aName 3) (aGCons (aName 4) (aGCons (aName 5) aGNil)))))
  (aSeq (aFor (aRng1 (aCons (aCB dLen (aCons (aVar 3) aNil)) aNil)) (aName 6)
  (aIfS (aAndT (aNotT (aTest (aOp dIx (aVar 3) (aVar 6)))) (aTest (aCB dAll (aCons (aData (aComp (aIt (aVar 4)) (aName 7) (aTest (aOp dEq (aOp dBand (aVar 6) (aVar 7)) (aC (.int 0)))) (aOp dIx (aVar 3) (aOp dAdd (aVar 6) (aVar 7))) [7])) aNil)))) (aDrop (aApp (aVar 5) (aCB c_members (aCons (aVar 2) (aCons (aVar 6) aNil))))) aNext))
  (aFrzV 5 (aRet (aCB dSortD (aCons (aVar 5) aNil)))))))
abbrev N_heavy_sets : List Str := ["councils", "sides", "some", "heavy", "bits", "found", "mask", "bit"]
abbrev P_heavy_sets : List Str := ["councils", "sides"]
@[reducible] def t_heavy_sets : AS :=
  (aSeq (aAsg (aCB dSortD (aCons (aVar 1) aNil)) (aName 2))
  (aSeq (aAsg (aTup (aCons (aCB c_heavy_table (aCons (aVar 0) (aCons (aVar 2) aNil))) (aCons (aCB c_bits_of (aCons (aCB dLen (aCons (aVar 2) aNil)) aNil)) (aCons (aCell (aLst aNil)) aNil)))) (aGTup 3 (aGCons (aName 3) (aGCons (aName 4) (aGCons (aName 5) aGNil)))))
  (aSeq (aFor (aRng1 (aCons (aCB dLen (aCons (aVar 3) aNil)) aNil)) (aName 6)
  (aIfS (aAndT (aTest (aOp dIx (aVar 3) (aVar 6))) (aNotT (aTest (aCB dAny (aCons (aData (aComp (aIt (aVar 4)) (aName 7) (aTest (aOp dNe (aOp dBand (aVar 6) (aVar 7)) (aC (.int 0)))) (aOp dIx (aVar 3) (aOp dSub (aVar 6) (aVar 7))) [7])) aNil))))) (aDrop (aApp (aVar 5) (aCB c_members (aCons (aVar 2) (aCons (aVar 6) aNil))))) aNext))
  (aFrzV 5 (aRet (aCB dSortD (aCons (aVar 5) aNil)))))))
theorem l_heavy_table : ∀ ds κ R, c_heavy_table ds κ R → ds.length = P_heavy_table.length := by
  rintro ds κ R ⟨_, _, rfl, _⟩
  rfl
theorem l_is_light : ∀ ds κ R, c_is_light ds κ R → ds.length = P_is_light.length := by
  rintro ds κ R ⟨_, _, rfl, _⟩
  rfl
theorem l_light_sets : ∀ ds κ R, c_light_sets ds κ R → ds.length = P_light_sets.length := by
  rintro ds κ R ⟨_, _, rfl, _⟩
  rfl
theorem l_heavy_sets : ∀ ds κ R, c_heavy_sets ds κ R → ds.length = P_heavy_sets.length := by
  rintro ds κ R ⟨_, _, rfl, _⟩
  rfl
theorem cs_good {cs : List Cse} {ss : List Sd} (o : SdOk cs ss) {c : Cse} (hc : c ∈ cs) : (∀ r ∈ ss.map (room c.1 c.2), 0 ≤ r) ∧ ∀ w ∈ c.1, 0 ≤ w := by
  obtain ⟨g, hs⟩ := o c hc
  refine ⟨fun r hr => ?_, fun w hw => by have := g.w1 w hw; omega⟩
  obtain ⟨s, hm, rfl⟩ := List.mem_map.mp hr
  exact room_pos g (hs s hm)
theorem hv_mono {cs : List Cse} {L L' : List Sd} (o : SdOk cs L') (s : L.Sublist L') (h : HvS cs L) : HvS cs L' := by
  obtain ⟨c, hc, p⟩ := h
  exact ⟨c, hc, packR_sub (cs_good o hc).1 (s.map _) p⟩
theorem SdOk.sub {cs : List Cse} {L L' : List Sd} (o : SdOk cs L') (s : ∀ x ∈ L, x ∈ L') : SdOk cs L := fun c hc => ⟨(o c hc).1, fun x hx => (o c hc).2 x (s x hx)⟩
def casesOf (cs : List Cse) (ss : List Sd) : List Cse := cs.map fun c => (c.1, ss.map (room c.1 c.2))
theorem cases_ok {cs : List Cse} {ss : List Sd} (o : SdOk cs ss) : ∀ c ∈ casesOf cs ss, CaseOk ss.length c := by
  intro c hc
  obtain ⟨d, hd, rfl⟩ := List.mem_map.mp hc
  have g := (o d hd).1
  exact ⟨by have := g.w2; show 1 ≤ d.1.length; omega, g.w7, (cs_good o hd).2, by rw [List.length_map], (cs_good o hd).1⟩
theorem heavy_cases {cs : List Cse} {ss : List Sd} (m : Nat) : heavyAt (casesOf cs ss) m ↔ HvS cs (memb zS ss m) := by
  constructor
  · rintro ⟨c, hc, p⟩
    obtain ⟨d, hd, rfl⟩ := List.mem_map.mp hc
    refine ⟨d, hd, ?_⟩
    rw [← memb_map (y := 0)]
    exact p
  · rintro ⟨d, hd, p⟩
    refine ⟨_, List.mem_map.mpr ⟨d, hd, rfl⟩, ?_⟩
    rw [← memb_map (y := 0)] at p
    exact p
theorem b_heavy_table : Body N_heavy_table t_heavy_table c_heavy_table := by
  rintro ds κ R co ⟨cs, ss, rfl, o, hn, hcn, h⟩
  simp [-Bool.exists_bool, start, List.replicate]
  refine comp_pure (b := fun c => caseD (c.1, ss.map (room c.1 c.2))) (by omega) (fun c hc Z hZ => ?_) ?_
  · simp [-Bool.exists_bool, cOf, cO, lk3, -List.lookup_eq_none_iff]
    refine ⟨c.1, c.2, rfl, ?_⟩
    exact ⟨c.1, c.2, ss, rfl, (o c hc).2, by omega, hZ⟩
  · have e : cs.map (fun c => caseD (c.1, ss.map (room c.1 c.2))) = (casesOf cs ss).map caseD := by rw [casesOf, List.map_map]; rfl
    rw [e]
    refine ⟨casesOf cs ss, ss.length, rfl, hn, by rw [casesOf, List.length_map]; exact hcn, cases_ok o, fun hb hhb => .inl (h hb ⟨fun m hm => ?_, fun m m' hm hm' hs hv => ?_⟩)⟩
    · rw [hhb m hm, heavy_cases]
    · exact hv_mono (o.sub fun x hx => (memb_sub _ _ _).subset hx) (memb_mono hs) hv
theorem b_is_light : Body N_is_light t_is_light c_is_light := by
  rintro ds κ R co ⟨cs, ss, rfl, o, hn, hcn, h⟩
  simp [-Bool.exists_bool, start, List.replicate]
  refine comp_st (b := D.bl) (fun (c : Cse) b => b = true ↔ PackR c.1 (ss.map (room c.1 c.2))) (fun κ' => κ' = κ) rfl (by omega) (fun c κ' hc e Z hZ => ?_) fun bs κ' hl hbs e => ?_
  · subst e
    simp [-Bool.exists_bool, cOf, cO, lk3, -List.lookup_eq_none_iff]
    refine ⟨c.1, c.2, rfl, ?_⟩
    refine ⟨c.1, c.2, ss, rfl, (o c hc).2, by omega, ?_⟩
    have g := (o c hc).1
    have hw2 := g.w2
    exact ⟨c.1, ss.map (room c.1 c.2), rfl, by omega, g.w7, (cs_good o hc).2, by rw [List.length_map]; exact hn, (cs_good o hc).1, fun b hb => hZ b _ hb rfl⟩
  · subst e
    refine e_any ?_
    refine ⟨_, rfl, .inl (h _ ?_)⟩
    rw [Bool.not_eq_true', List.any_eq_false]
    constructor
    · rintro hf ⟨c, hc, p⟩
      obtain ⟨j, hj, e⟩ := List.getElem_of_mem hc
      have := (hbs j c bs[j] (by rw [← e]; exact List.getElem?_eq_getElem hj) (List.getElem?_eq_getElem (by omega))).mpr p
      exact hf _ (List.getElem_mem _) this
    · intro hn b hb hb'
      obtain ⟨j, hj, e⟩ := List.getElem_of_mem hb
      exact hn ⟨cs[j], List.getElem_mem _, (hbs j _ b (List.getElem?_eq_getElem (by omega)) (by rw [← e]; exact List.getElem?_eq_getElem hj)).mp hb'⟩
def pickF (p : Nat → Bool) (S : List Sd) (n : Nat) : List D := (((List.range n).filter p).map (memb zS S)).map (lF sideD)
theorem pick_no {p : Nat → Bool} {S : List Sd} {i : Nat} (q : p i = false) : pickF p S (i + 1) = pickF p S i := by
  rw [pickF, pickF, List.range_succ, List.filter_append, List.filter_cons, if_neg (by simp [q])]
  simp
theorem pick_yes {p : Nat → Bool} {S : List Sd} {i : Nat} (q : p i = true) : pickF p S (i + 1) = pickF p S i ++ [lF sideD (memb zS S i)] := by
  rw [pickF, pickF, List.range_succ, List.filter_append, List.filter_cons, if_pos q, List.map_append, List.map_append]
  rfl
theorem pick_len (p : Nat → Bool) (S : List Sd) (i : Nat) : (pickF p S i).length ≤ i := by
  rw [pickF, List.length_map, List.length_map]
  have := List.length_filter_le p (List.range i)
  rwa [List.length_range] at this
theorem b_light_sets : Body N_light_sets t_light_sets c_light_sets := by
  rintro ds κ R co ⟨cs, ss, rfl, o, nd, hn, hcn, h⟩
  simp [-Bool.exists_bool, start, List.replicate]
  refine use_sortF sortF_side (by decide) (by omega) ?_
  have pS := srt_perm sideD ss
  have hSl : (srt sideD ss).length ≤ 12 := by rw [pS.length_eq]; exact hn
  have ndS : (srt sideD ss).Nodup := pS.symm.nodup nd
  have oS : SdOk cs (srt sideD ss) := o.sub fun x hx => pS.mem_iff.mp hx
  generalize srt sideD ss = S at *
  refine ⟨cs, S, rfl, oS, hSl, hcn, fun hb t => ?_⟩
  have h4 : 2 ^ S.length ≤ 4096 := Nat.pow_le_pow_right (n := 2) (by decide) hSl
  simp [-Bool.exists_bool]
  refine ⟨S.length, rfl, by omega, ?_⟩
  simp [-Bool.exists_bool]
  have tl : (tabB hb (2 ^ S.length)).length = 2 ^ S.length := by rw [tabB, List.length_map, List.length_range]
  rw [tl]
  refine ⟨by omega, ?_⟩
  refine loop_rng (fun i ρ κ' => κ' = κ ++ [some (.lst (pickF (lightM S.length hb) S i))] ∧ ∃ x6 x7, ρ = [some (.lst (cs.map cOf)), some (.lst (ss.map sideD)), some (.lst (S.map sideD)), some (.lst (tabB hb (2 ^ S.length))), some (lN (bitsL S.length)), some (.cell κ.length), x6, x7]) ⟨rfl, _, _, rfl⟩ ?_ ?_
  · rintro i ρ κ' hi ⟨rfl, x6, x7, rfl⟩ Z hZ
    have e0 : (0 : Int) + (i : Nat) = (i : Nat) := by omega
    have eb : (bitsL S.length).map D.int = (List.range S.length).map fun j => D.int ((2 ^ j : Nat) : Int) := by rw [bitsL, List.map_map]; rfl
    rw [e0]
    simp [-Bool.exists_bool]
    refine ⟨_, tab_at hi, ?_⟩
    have skip : lightM S.length hb i = false → Z [some (.lst (cs.map cOf)), some (.lst (ss.map sideD)), some (.lst (S.map sideD)), some (.lst (tabB hb (2 ^ S.length))), some (lN (bitsL S.length)), some (.cell κ.length), some (.int (i : Nat)), x7] (κ ++ [some (.lst (pickF (lightM S.length hb) S i))]) := fun q => by
      refine hZ _ _ ⟨?_, _, _, rfl⟩
      rw [pick_no q]
    have take : lightM S.length hb i = true → Z [some (.lst (cs.map cOf)), some (.lst (ss.map sideD)), some (.lst (S.map sideD)), some (.lst (tabB hb (2 ^ S.length))), some (lN (bitsL S.length)), some (.cell κ.length), some (.int (i : Nat)), x7] (κ ++ [some (.lst (pickF (lightM S.length hb) S i ++ [lF sideD (memb zS S i)]))]) := fun q => by
      refine hZ _ _ ⟨?_, _, _, rfl⟩
      rw [pick_yes q]
    have flen : (pickF (lightM S.length hb) S i).length < 16777216 := by
      have := pick_len (lightM S.length hb) S i
      omega
    cases q : hb i with
    | true =>
      simp [-Bool.exists_bool]
      exact skip (by simp [lightM, q])
    | false =>
      simp [-Bool.exists_bool]
      rw [eb]
      refine comp_filt (b := fun j => D.bl (hb (i + 2 ^ j))) (fun j => !i.testBit j) (by simp; omega) (fun j hj Z' Y' h1 h2 => ?_) ?_
      · simp [-Bool.exists_bool, -Int.natCast_add, -Int.natCast_pow]
        have hj := List.mem_range.mp hj
        split
        · rename_i w
          have hbj := band_iff.mp w
          have e3 : ((i : Nat) : Int) + ((2 ^ j : Nat) : Int) = ((i + 2 ^ j : Nat) : Int) := by omega
          rw [e3]
          exact ⟨_, tab_at (add_lt hi hj hbj), h1 (by simp [hbj])⟩
        · rename_i w
          exact h2 (by simp [band_not w])
      · have ea : ((List.range S.length).filter fun j => !i.testBit j).map (fun j => D.bl (hb (i + 2 ^ j))) = (((List.range S.length).filter fun j => !i.testBit j).map fun j => hb (i + 2 ^ j)).map D.bl := by
          rw [List.map_map]
          rfl
        rw [ea]
        refine e_all ⟨_, rfl, ?_⟩
        have em : lightM S.length hb i = (((List.range S.length).filter fun j => !i.testBit j).map fun j => hb (i + 2 ^ j)).all id := by
          rw [lightM, q, List.all_map]
          rfl
        rw [← em]
        cases w : lightM S.length hb i with
        | false =>
          rw [if_neg (by decide)]
          exact skip w
        | true =>
          rw [if_pos rfl]
          simp [-Bool.exists_bool, own_get rfl, own_set rfl, -List.map_map]
          refine ⟨S.map sideD, i, rfl, by rw [List.length_map]; omega, ?_⟩
          rw [memb_map (z := zS)]
          refine ⟨_, own_get rfl, ?_⟩
          have f1 := take w
          rw [own_set rfl]
          exact ⟨flen, f1⟩
  · rintro ρ κ' ⟨rfl, x6, x7, rfl⟩
    simp [-Bool.exists_bool, own_get rfl, own_set rfl, -List.map_map]
    refine use_sortF (f := lF sideD) sortF_side.lst (by decide) ?_ ?_
    · rw [List.length_map]
      have := List.length_filter_le (lightM S.length hb) (List.range (2 ^ S.length))
      rw [List.length_range] at this
      omega
    · refine fin_app co ?_ (h _ (light_of t ndS))
      rw [blw]
      exact blws_map _ (fun L => by rw [lF, blw]; exact blws_map _ (blw_sideD _) L) _
theorem b_heavy_sets : Body N_heavy_sets t_heavy_sets c_heavy_sets := by
  rintro ds κ R co ⟨cs, ss, rfl, o, nd, hn, hcn, h⟩
  simp [-Bool.exists_bool, start, List.replicate]
  refine use_sortF sortF_side (by decide) (by omega) ?_
  have pS := srt_perm sideD ss
  have hSl : (srt sideD ss).length ≤ 12 := by rw [pS.length_eq]; exact hn
  have ndS : (srt sideD ss).Nodup := pS.symm.nodup nd
  have oS : SdOk cs (srt sideD ss) := o.sub fun x hx => pS.mem_iff.mp hx
  generalize srt sideD ss = S at *
  refine ⟨cs, S, rfl, oS, hSl, hcn, fun hb t => ?_⟩
  have h4 : 2 ^ S.length ≤ 4096 := Nat.pow_le_pow_right (n := 2) (by decide) hSl
  simp [-Bool.exists_bool]
  refine ⟨S.length, rfl, by omega, ?_⟩
  simp [-Bool.exists_bool]
  have tl : (tabB hb (2 ^ S.length)).length = 2 ^ S.length := by rw [tabB, List.length_map, List.length_range]
  rw [tl]
  refine ⟨by omega, ?_⟩
  refine loop_rng (fun i ρ κ' => κ' = κ ++ [some (.lst (pickF (heavyM S.length hb) S i))] ∧ ∃ x6 x7, ρ = [some (.lst (cs.map cOf)), some (.lst (ss.map sideD)), some (.lst (S.map sideD)), some (.lst (tabB hb (2 ^ S.length))), some (lN (bitsL S.length)), some (.cell κ.length), x6, x7]) ⟨rfl, _, _, rfl⟩ ?_ ?_
  · rintro i ρ κ' hi ⟨rfl, x6, x7, rfl⟩ Z hZ
    have e0 : (0 : Int) + (i : Nat) = (i : Nat) := by omega
    have eb : (bitsL S.length).map D.int = (List.range S.length).map fun j => D.int ((2 ^ j : Nat) : Int) := by rw [bitsL, List.map_map]; rfl
    rw [e0]
    simp [-Bool.exists_bool]
    refine ⟨_, tab_at hi, ?_⟩
    have skip : heavyM S.length hb i = false → Z [some (.lst (cs.map cOf)), some (.lst (ss.map sideD)), some (.lst (S.map sideD)), some (.lst (tabB hb (2 ^ S.length))), some (lN (bitsL S.length)), some (.cell κ.length), some (.int (i : Nat)), x7] (κ ++ [some (.lst (pickF (heavyM S.length hb) S i))]) := fun q => by
      refine hZ _ _ ⟨?_, _, _, rfl⟩
      rw [pick_no q]
    have take : heavyM S.length hb i = true → Z [some (.lst (cs.map cOf)), some (.lst (ss.map sideD)), some (.lst (S.map sideD)), some (.lst (tabB hb (2 ^ S.length))), some (lN (bitsL S.length)), some (.cell κ.length), some (.int (i : Nat)), x7] (κ ++ [some (.lst (pickF (heavyM S.length hb) S i ++ [lF sideD (memb zS S i)]))]) := fun q => by
      refine hZ _ _ ⟨?_, _, _, rfl⟩
      rw [pick_yes q]
    have flen : (pickF (heavyM S.length hb) S i).length < 16777216 := by
      have := pick_len (heavyM S.length hb) S i
      omega
    cases q : hb i with
    | false =>
      simp [-Bool.exists_bool]
      exact skip (by simp [heavyM, q])
    | true =>
      simp [-Bool.exists_bool]
      rw [eb]
      refine comp_filt (b := fun j => D.bl (hb (i - 2 ^ j))) (fun j => i.testBit j) (by simp; omega) (fun j hj Z' Y' h1 h2 => ?_) ?_
      · simp [-Bool.exists_bool, -Int.natCast_add, -Int.natCast_pow]
        have hj := List.mem_range.mp hj
        split
        · rename_i w
          exact h2 (band_iff.mp w)
        · rename_i w
          have hbj := band_not w
          have hle := bit_le hbj
          have e3 : ((i : Nat) : Int) - ((2 ^ j : Nat) : Int) = ((i - 2 ^ j : Nat) : Int) := by omega
          rw [e3]
          exact ⟨_, tab_at (Nat.lt_of_le_of_lt (Nat.sub_le _ _) hi), h1 hbj⟩
      · have ea : ((List.range S.length).filter fun j => i.testBit j).map (fun j => D.bl (hb (i - 2 ^ j))) = (((List.range S.length).filter fun j => i.testBit j).map fun j => hb (i - 2 ^ j)).map D.bl := by
          rw [List.map_map]
          rfl
        rw [ea]
        refine e_any ⟨_, rfl, ?_⟩
        have em : (((List.range S.length).filter fun j => i.testBit j).map fun j => hb (i - 2 ^ j)).any id = !heavyM S.length hb i := by
          rw [heavyM, q, List.any_map, Bool.true_and, Bool.not_not]
          rfl
        rw [em]
        cases w : heavyM S.length hb i with
        | false =>
          simp [-Bool.exists_bool]
          exact skip w
        | true =>
          rw [if_neg (by decide)]
          simp [-Bool.exists_bool, own_get rfl, own_set rfl, -List.map_map]
          refine ⟨S.map sideD, i, rfl, by rw [List.length_map]; omega, ?_⟩
          rw [memb_map (z := zS)]
          refine ⟨_, own_get rfl, ?_⟩
          have f1 := take w
          rw [own_set rfl]
          exact ⟨flen, f1⟩
  · rintro ρ κ' ⟨rfl, x6, x7, rfl⟩
    simp [-Bool.exists_bool, own_get rfl, own_set rfl, -List.map_map]
    refine use_sortF (f := lF sideD) sortF_side.lst (by decide) ?_ ?_
    · rw [List.length_map]
      have := List.length_filter_le (heavyM S.length hb) (List.range (2 ^ S.length))
      rw [List.length_range] at this
      omega
    · refine fin_app co ?_ (h _ (heavy_of t ndS))
      rw [blw]
      exact blws_map _ (fun L => by rw [lF, blw]; exact blws_map _ (blw_sideD _) L) _
end PD
set_option Elab.async false
set_option linter.all false
set_option maxRecDepth 100000
set_option maxHeartbeats 4000000
/-! The laws' own: parts of lists, all sublists, ends of families. -/
namespace PD
open PySem PySem.Spec PyProof.Rows L2
def within (L L' : List Sd) : Bool := decide (∀ x ∈ L, x ∈ L')
def subs {α : Type} (xs : List α) : List (List α) := xs.foldl (fun found x => found ++ found.map (· ++ [x])) [[]]
def c_law_within : Con := fun ds κ R => ∃ L L' : List Sd, ds = [lF sideD L, lF sideD L'] ∧ L.length ≤ 1000 ∧ R (.bl (within L L')) κ
def c_law_subsets : Con := fun ds κ R => ∃ xs : List Sd, ds = [lF sideD xs] ∧ xs.length ≤ 12 ∧ R (.lst ((subs xs).map (lF sideD))) κ
def c_law_ends_told : Con := fun ds κ R => ∃ (k : Nat) (S : List Sd) (found : List (List Sd)), ds = [.cell k, .lst (found.map (lF sideD))] ∧ Bg k κ κ ∧ EndsOk sideD S found ∧ Asc sideD S ∧ S.Nodup ∧ S.length ≤ 12 ∧ found.length ≤ 10000 ∧ ∀ κ', Bg k κ κ' → R (.bl true) κ'
abbrev N_law_within : List Str := ["some", "other", "item"]
abbrev P_law_within : List Str := ["some", "other"]
@[reducible] def t_law_within : AS :=
  (aRet (aCB dAll (aCons (aData (aComp (aIt (aVar 0)) (aName 2) aYes (aOp (dInL id) (aVar 2) (aVar 1)) [2])) aNil)))
abbrev N_law_subsets : List Str := ["items", "found", "item", "some"]
abbrev P_law_subsets : List Str := ["items"]
@[reducible] def t_law_subsets : AS :=
  (aSeq (aAsg (aData (aLst (aCons (aData (aLst aNil)) aNil))) (aName 1))
  (aSeq (aFor (aIt (aVar 0)) (aName 2)
  (aAsg (aOp dAdd (aVar 1) (aData (aComp (aIt (aVar 1)) (aName 3) aYes (aOp dAdd (aVar 3) (aData (aLst (aCons (aVar 2) aNil)))) [3]))) (aName 1)))
  (aRet (aVar 1))))
abbrev N_law_ends_told : List Str := ["bag", "found", "k", "turn", "one", "less", "other", "more"]
abbrev P_law_ends_told : List Str := ["bag", "found"]
@[reducible] def t_law_ends_told : AS :=
  (aSeq (aIfS (aOrT (aTest (aOp dNe (aVar 1) (aCB dSortD (aCons (aVar 1) aNil)))) (aTest (aOp dNe (aData (aComp (aRng2 (aCons (aC (.int 1)) (aCons (aCB dLen (aCons (aVar 1) aNil)) aNil))) (aName 2) (aTest (aOp dEq (aOp dIx (aVar 1) (aVar 2)) (aOp dIx (aVar 1) (aOp dSub (aVar 2) (aC (.int 1)))))) (aVar 2) [2])) (aData (aLst aNil))))) (aRet (aC (.bl false))) aNext)
  (aSeq (aFor (aRng1 (aCons (aOp dMul (aC (.int 6)) (aCB dInt (aCons (aOp dNe (aVar 1) (aData (aLst aNil))) aNil))) aNil)) (aName 3)
  (aSeq (aAsg (aOp dIx (aVar 1) (aCB c_law_take (aCons (aVar 0) (aCons (aCB dLen (aCons (aVar 1) aNil)) aNil)))) (aName 4))
  (aSeq (aAsg (aData (aComp (aIt (aVar 1)) (aName 6) (aTest (aCB c_law_within (aCons (aVar 6) (aCons (aVar 4) aNil)))) (aVar 6) [6])) (aName 5))
  (aSeq (aAsg (aData (aComp (aIt (aVar 1)) (aName 6) (aTest (aCB c_law_within (aCons (aVar 4) (aCons (aVar 6) aNil)))) (aVar 6) [6])) (aName 7))
  (aIfS (aOrT (aTest (aOp dNe (aVar 4) (aCB dSortD (aCons (aVar 4) aNil)))) (aOrT (aTest (aOp dNe (aVar 5) (aData (aLst (aCons (aVar 4) aNil))))) (aTest (aOp dNe (aVar 7) (aData (aLst (aCons (aVar 4) aNil))))))) (aRet (aC (.bl false))) aNext)))))
  (aRet (aC (.bl true)))))
theorem l_law_within : ∀ ds κ R, c_law_within ds κ R → ds.length = P_law_within.length := by
  rintro ds κ R ⟨_, _, rfl, _⟩
  rfl
theorem l_law_subsets : ∀ ds κ R, c_law_subsets ds κ R → ds.length = P_law_subsets.length := by
  rintro ds κ R ⟨_, rfl, _⟩
  rfl
theorem l_law_ends_told : ∀ ds κ R, c_law_ends_told ds κ R → ds.length = P_law_ends_told.length := by
  rintro ds κ R ⟨_, _, _, rfl, _⟩
  rfl
theorem within_iff {L L' : List Sd} : within L L' = true ↔ ∀ x ∈ L, x ∈ L' := by rw [within, decide_eq_true_eq]
theorem b_law_within : Body N_law_within t_law_within c_law_within := by
  rintro ds κ R co ⟨L, L', rfl, hn, h⟩
  simp [-Bool.exists_bool, start, List.replicate, lF]
  refine comp_pure (b := fun s => D.bl (decide (s ∈ L'))) (by omega) (fun s hs Z hZ => ?_) ?_
  · simp [-Bool.exists_bool]
    exact use_inSidesL hZ
  · have e : L.map (fun s => D.bl (decide (s ∈ L'))) = (L.map fun s => decide (s ∈ L')).map D.bl := by rw [List.map_map]; rfl
    rw [e]
    refine e_all (.inl ?_)
    have e2 : (L.map fun s => decide (s ∈ L')).all id = within L L' := by
      rw [Bool.eq_iff_iff, within_iff, List.all_map, List.all_eq_true]
      simp
    rw [e2]
    exact h
theorem subs_snoc {α : Type} (xs : List α) (x : α) : subs (xs ++ [x]) = subs xs ++ (subs xs).map (· ++ [x]) := by
  rw [subs, List.foldl_append]
  rfl
theorem subs_fold {α : Type} : ∀ (xs : List α) (found : List (List α)) (L : List α), L ∈ xs.foldl (fun found x => found ++ found.map (· ++ [x])) found ↔ ∃ A ∈ found, ∃ B : List α, B.Sublist xs ∧ L = A ++ B
  | [], found, L => by simp
  | x :: xs, found, L => by
    rw [List.foldl_cons, subs_fold xs]
    constructor
    · rintro ⟨A, hA, B, hB, rfl⟩
      rcases List.mem_append.mp hA with hA | hA
      · exact ⟨A, hA, B, hB.cons x, rfl⟩
      · obtain ⟨A', hA', rfl⟩ := List.mem_map.mp hA
        exact ⟨A', hA', x :: B, hB.cons₂ x, by simp⟩
    · rintro ⟨A, hA, B, hB, rfl⟩
      rcases List.sublist_cons_iff.mp hB with h | ⟨r, rfl, h⟩
      · exact ⟨A, List.mem_append_left _ hA, B, h, rfl⟩
      · exact ⟨A ++ [x], List.mem_append_right _ (List.mem_map.mpr ⟨A, hA, rfl⟩), r, h, by simp⟩
theorem mem_subs {α : Type} {xs L : List α} : L ∈ subs xs ↔ L.Sublist xs := by
  rw [subs, subs_fold]
  constructor
  · rintro ⟨A, hA, B, hB, rfl⟩
    rw [List.mem_singleton.mp hA]
    exact hB
  · intro h
    exact ⟨[], by simp, L, h, rfl⟩
theorem subs_fold_len {α : Type} : ∀ (xs : List α) (found : List (List α)), (xs.foldl (fun found x => found ++ found.map (· ++ [x])) found).length = found.length * 2 ^ xs.length
  | [], found => by simp
  | x :: xs, found => by
    rw [List.foldl_cons, subs_fold_len xs, List.length_append, List.length_map, List.length_cons, Nat.pow_succ, ← Nat.two_mul, Nat.mul_comm 2, Nat.mul_assoc, Nat.mul_comm 2]
theorem subs_len {α : Type} (xs : List α) : (subs xs).length = 2 ^ xs.length := by
  rw [subs, subs_fold_len]
  simp
theorem b_law_subsets : Body N_law_subsets t_law_subsets c_law_subsets := by
  rintro ds κ R co ⟨xs, rfl, hn, h⟩
  simp [-Bool.exists_bool, start, List.replicate, lF]
  refine loop_map (fun todo ρ κ' => ∃ done x y, done ++ todo = xs ∧ κ' = κ ∧ ρ = [some (.lst (xs.map sideD)), some (.lst ((subs done).map (lF sideD))), x, y]) ⟨[], _, _, rfl, rfl, rfl⟩ ?_ ?_
  · rintro s todo ρ κ' ⟨done, x, y, hd, rfl, rfl⟩ Z hZ
    have hdl : done.length < 12 := by
      have : (done ++ s :: todo).length = xs.length := by rw [hd]
      simp at this
      omega
    have h4 : 2 ^ done.length ≤ 4096 := Nat.pow_le_pow_right (n := 2) (by decide) (show done.length ≤ 12 by omega)
    have hsl := subs_len done
    simp [-Bool.exists_bool, -List.map_map]
    refine comp_pure (b := fun L => lF sideD (L ++ [s])) (by omega) (fun L hL Y hY => ?_) ?_
    · have hLl := (mem_subs.mp hL).length_le
      simp [-Bool.exists_bool, lF]
      refine ⟨by omega, ?_⟩
      simpa [lF] using hY
    · simp [-Bool.exists_bool, -List.map_map]
      refine ⟨by omega, ?_⟩
      have e : (subs done).map (lF sideD) ++ (subs done).map (fun L => lF sideD (L ++ [s])) = (subs (done ++ [s])).map (lF sideD) := by
        rw [subs_snoc, List.map_append, List.map_map]
        rfl
      rw [e]
      exact hZ _ _ ⟨done ++ [s], _, _, by simp [hd], rfl, rfl⟩
  · rintro ρ κ' ⟨done, x, y, hd, rfl, rfl⟩
    rw [List.append_nil] at hd
    subst hd
    simp [-Bool.exists_bool, -List.map_map]
    exact .inl h
theorem filter_one {α : Type} [DecidableEq α] {found : List α} {p : α → Bool} {one : α} (nd : found.Nodup) (h1 : one ∈ found) (h : ∀ o ∈ found, p o = true ↔ o = one) : found.filter p = [one] := by
  induction found with
  | nil => cases h1
  | cons a l ih =>
    have hn := List.nodup_cons.mp nd
    rw [List.filter_cons]
    by_cases q : a = one
    · subst q
      rw [if_pos ((h a (by simp)).mpr rfl)]
      congr 1
      rw [List.filter_eq_nil_iff]
      intro o ho hp
      have := (h o (by simp [ho])).mp hp
      exact hn.1 (this ▸ ho)
    · have hp : ¬p a = true := fun z => q ((h a (by simp)).mp z)
      rw [if_neg hp]
      refine ih hn.2 ?_ fun o ho => h o (by simp [ho])
      rcases List.mem_cons.mp h1 with e | h1
      · exact absurd e.symm q
      · exact h1
theorem b_law_ends_told : Body N_law_ends_told t_law_ends_told c_law_ends_told := by
  rintro ds κ R co ⟨k, S, found, rfl, b, e, ha, nd, hS, hf, h⟩
  simp [-Bool.exists_bool, start, List.replicate]
  refine use_sortF (f := lF sideD) sortF_side.lst (by decide) (by omega) ?_
  rw [srt_of_asc e.asc]
  refine use_neF (f := lF sideD) eqF_side.lst (by decide) ?_
  simp [-Bool.exists_bool]
  refine ⟨by omega, ?_⟩
  refine comp_filt (xs := List.range (found.length - 1)) (a := fun i => D.int (1 + (i : Nat))) (b := fun i => D.int (1 + (i : Nat))) (fun _ => false) (by simp; omega) (fun i hi Y Z' h1 h2 => ?_) ?_
  · have hi := List.mem_range.mp hi
    have e1 : (1 : Int) + (i : Nat) = ((i + 1 : Nat) : Int) := by omega
    have e2 : (1 : Int) + (i : Nat) - 1 = (i : Nat) := by omega
    simp [-Bool.exists_bool, e2]
    rw [e1]
    refine ⟨_, atI_map (f := lF sideD) (show i + 1 < found.length by omega), _, atI_map (f := lF sideD) (show i < found.length by omega), ?_⟩
    refine use_eqF eqF_side (by decide) ?_
    refine ⟨_, rfl, ?_⟩
    have hne : found[i + 1]'(by omega) ≠ found[i]'(by omega) := fun q => by
      have := nodup_get e.nd (by omega) (by omega) q
      omega
    rw [if_neg (by simp [hne])]
    exact h2 rfl
  · have en : ((List.range (found.length - 1)).filter fun _ => false) = [] := List.filter_eq_nil_iff.mpr fun _ _ => by simp
    rw [en, List.map_nil]
    refine use_neF (f := D.int) (xs := []) (ys := []) eqF_int (by decide) ?_
    refine ⟨_, rfl, ?_⟩
    rw [if_neg (by simp)]
    refine use_neF (f := lF sideD) (ys := []) eqF_side.lst (by decide) ?_
    by_cases hne : found = []
    · subst hne
      simp [-Bool.exists_bool, dInt]
      exact .inl (h κ b)
    · simp [-Bool.exists_bool, dInt, hne]
      have hfl : 0 < found.length := List.length_pos_iff.mpr hne
      refine loop_rng (fun i ρ κ' => Bg k κ κ' ∧ ∃ x2 x3 x4 x5 x6 x7, ρ = [some (.cell k), some (.lst (found.map (lF sideD))), x2, x3, x4, x5, x6, x7]) ⟨b, _, _, _, _, _, _, rfl⟩ ?_ ?_
      · rintro i ρ κ' hi ⟨b1, x2, x3, x4, x5, x6, x7, rfl⟩ Z hZ
        simp [-Bool.exists_bool]
        refine use_take b1 (by omega) (by omega) fun v κ2 b2 g1 g2 => ?_
        obtain ⟨j, rfl⟩ : ∃ j : Nat, v = (j : Nat) := ⟨v.toNat, by omega⟩
        have hj : j < found.length := by omega
        simp [-Bool.exists_bool]
        refine ⟨_, atI_map (f := lF sideD) hj, ?_⟩
        have hm : found[j] ∈ found := List.getElem_mem hj
        generalize found[j] = one at hm
        have hlen : ∀ o ∈ found, o.length ≤ 1000 := fun o ho => by
          have := (e.sub o ho).length_le
          omega
        refine comp_filt (b := lF sideD) (fun o => within o one) (by omega) (fun o ho Y Y2 h1 h2 => ?_) ?_
        · simp [-Bool.exists_bool]
          refine ⟨o, one, rfl, hlen o ho, ?_⟩
          refine ⟨_, rfl, ?_⟩
          cases q : within o one with
          | true => exact h1 q
          | false => exact h2 q
        rw [filter_one (p := fun o => within o one) e.nd hm fun o ho => ⟨fun q => e.anti o ho one hm (within_iff.mp q), fun q => within_iff.mpr fun x hx => by rwa [q] at hx⟩]
        simp [-Bool.exists_bool]
        refine comp_filt (b := lF sideD) (fun o => within one o) (by omega) (fun o ho Y Y2 h1 h2 => ?_) ?_
        · simp [-Bool.exists_bool]
          refine ⟨one, o, rfl, hlen one hm, ?_⟩
          refine ⟨_, rfl, ?_⟩
          cases q : within one o with
          | true => exact h1 q
          | false => exact h2 q
        rw [filter_one (p := fun o => within one o) e.nd hm fun o ho => ⟨fun q => (e.anti one hm o ho (within_iff.mp q)).symm, fun q => within_iff.mpr fun x hx => by rwa [q]⟩]
        simp [-Bool.exists_bool]
        refine use_sortF (f := sideD) sortF_side (by decide) (by have := hlen one hm; omega) ?_
        rw [srt_of_asc (ha.sub (e.sub one hm))]
        refine use_neF (f := sideD) eqF_side (by decide) ?_
        refine ⟨_, rfl, ?_⟩
        rw [if_neg (by simp)]
        refine use_neF (f := lF sideD) (xs := [one]) (ys := [one]) eqF_side.lst (by decide) ?_
        refine ⟨_, rfl, ?_⟩
        rw [if_neg (by simp)]
        refine use_neF (f := lF sideD) (xs := [one]) (ys := [one]) eqF_side.lst (by decide) ?_
        refine ⟨_, rfl, ?_⟩
        rw [if_neg (by simp)]
        exact hZ _ _ ⟨b2, _, _, _, _, _, _, rfl⟩
      · rintro ρ κ' ⟨b1, x2, x3, x4, x5, x6, x7, rfl⟩
        exact .inl (h κ' b1)
end PD
set_option Elab.async false
set_option linter.all false
set_option maxRecDepth 100000
set_option maxHeartbeats 4000000
/-! Power: all sides, the first least list, gains, compare, same_power. -/
namespace PD
open PySem PySem.Spec PyProof.Rows L2
def allS (w : Nat) : List Sd := (List.range w).flatMap fun c => [(c, true), (c, false)]
def keyP (L : List Sd) : PyData := .tuple [.int L.length, pyOf (lF sideD L)]
def c_all_sides : Con := fun ds κ R => ∃ w : Nat, ds = [.int (w : Nat)] ∧ w ≤ 6 ∧ R (.lst ((allS w).map sideD)) κ
def c_first_least : Con := fun ds κ R => ∃ found : List (List Sd), ds = [.lst (found.map (lF sideD))] ∧ found.length ≤ 10000 ∧ (found = [] → R .non κ) ∧ ∀ L ∈ found, (∀ M ∈ found, PySem.W.dataLt (keyP M) (keyP L) = false) → R (lF sideD L) κ
def c_gains : Con := fun ds κ R => ∃ (cs os : List Cse) (w : Nat), ds = [.lst (cs.map cOf), .lst (os.map cOf), .int (w : Nat)] ∧ w ≤ 6 ∧ SdOk cs (allS w) ∧ SdOk os (allS w) ∧ cs.length ≤ 1000 ∧ os.length ≤ 1000 ∧
  ∀ heavy found : List (List Sd), HeavyS sideD (HvS cs) (allS w) heavy → (∀ L, L ∈ found ↔ L ∈ heavy ∧ ¬HvS os L) → found.length ≤ heavy.length → R (.lst (found.map (lF sideD))) κ
def Sub (cs os : List Cse) (w : Nat) : Prop := ∀ L, L.Sublist (allS w) → HvS cs L → HvS os L
/-- L is what cs adds to os -/
def Gain (cs os : List Cse) (w : Nat) (L : List Sd) : Prop := ∃ heavy, HeavyS sideD (HvS cs) (allS w) heavy ∧ L ∈ heavy ∧ ¬HvS os L ∧ ∀ M ∈ heavy, ¬HvS os M → PySem.W.dataLt (keyP M) (keyP L) = false
def tabD (heavy : List (List Sd)) (ix : List Nat) : D := .lst ((heavy.zip ix).map fun p => .tup [lF sideD p.1, .int (p.2 : Nat)])
def c_compare : Con := fun ds κ R => ∃ (c : Cse) (os : List Cse), ds = [cOf c, .lst (os.map cOf)] ∧ SdOk [c] (allS c.2.length) ∧ SdOk os (allS c.2.length) ∧ os.length ≤ 1000 ∧
  (∀ L, Gain [c] os c.2.length L → R (.tup [.str (Str.ofString "more"), lF sideD L]) κ) ∧
  (Sub [c] os c.2.length → ∀ (heavy : List (List Sd)) (ix : List Nat), HeavyS sideD (HvS [c]) (allS c.2.length) heavy → ix.length = heavy.length → (∀ (j : Nat) L i, heavy[j]? = some L → ix[j]? = some i → ∃ o, os[i]? = some o ∧ HvS [o] L) → R (.tup [.str (Str.ofString "nothing"), tabD heavy ix]) κ)
def c_same_power : Con := fun ds κ R => ∃ (cs os : List Cse) (w : Nat), ds = [.lst (cs.map cOf), .lst (os.map cOf)] ∧ w ≤ 6 ∧ SdOk cs (allS w) ∧ SdOk os (allS w) ∧ cs.length ≤ 1000 ∧ os.length ≤ 1000 ∧ cs ≠ [] ∧ (∀ c ∈ cs ++ os, c.2.length = w) ∧
  (Sub cs os w → Sub os cs w → R .non κ) ∧ ∀ (i : Nat) L, (¬(Sub cs os w ∧ Sub os cs w)) → R (.tup [.int (i : Nat), lF sideD L]) κ
abbrev N_all_sides : List Str := ["width", "column", "way"]
abbrev P_all_sides : List Str := ["width"]
@[reducible] def t_all_sides : AS :=
  (aRet (aData (aComp2 (aRng1 (aCons (aVar 0) aNil)) (aName 1) aYes (aIt (aTup (aCons (aC (.str (Str.ofString "least"))) (aCons (aC (.str (Str.ofString "most"))) aNil)))) (aName 2) aYes (aTup (aCons (aVar 1) (aCons (aVar 2) aNil))) [1, 2] [2])))
abbrev N_first_least : List Str := ["some", "one"]
abbrev P_first_least : List Str := ["some"]
@[reducible] def t_first_least : AS :=
  (aRet (aMinL (aVar 0)))
abbrev N_gains : List Str := ["councils", "others", "width", "some"]
abbrev P_gains : List Str := ["councils", "others", "width"]
@[reducible] def t_gains : AS :=
  (aRet (aData (aComp (aIt (aCB c_heavy_sets (aCons (aVar 0) (aCons (aCB c_all_sides (aCons (aVar 2) aNil)) aNil)))) (aName 3) (aTest (aCB c_is_light (aCons (aVar 1) (aCons (aVar 3) aNil)))) (aVar 3) [3])))
abbrev N_compare : List Str := ["council", "councils", "sides", "table", "some", "index", "at", "other"]
abbrev P_compare : List Str := ["council", "councils"]
@[reducible] def t_compare : AS :=
  (aSeq (aAsg (aCB c_first_least (aCons (aCB c_gains (aCons (aData (aLst (aCons (aVar 0) aNil))) (aCons (aVar 1) (aCons (aMeth "Council" "width" c_Council_width (aVar 0) aNil) aNil)))) aNil)) (aName 2))
  (aSeq (aIfS (aTest (aOp dNotN (aVar 2) (aC .non))) (aRet (aTup (aCons (aC (.str (Str.ofString "more"))) (aCons (aVar 2) aNil)))) aNext)
  (aSeq (aAsg (aCell (aLst aNil)) (aName 3))
  (aSeq (aFor (aIt (aCB c_heavy_sets (aCons (aData (aLst (aCons (aVar 0) aNil))) (aCons (aCB c_all_sides (aCons (aMeth "Council" "width" c_Council_width (aVar 0) aNil) aNil)) aNil)))) (aName 4)
  (aSeq (aAsg (aOp dIx (aData (aComp (aEnum (aCons (aVar 1) aNil)) (aGTup 2 (aGCons (aName 6) (aGCons (aName 7) aGNil))) (aNotT (aTest (aCB c_is_light (aCons (aData (aLst (aCons (aVar 7) aNil))) (aCons (aVar 4) aNil))))) (aVar 6) [6, 7])) (aC (.int 0))) (aName 5))
  (aDrop (aApp (aVar 3) (aTup (aCons (aVar 4) (aCons (aVar 5) aNil)))))))
  (aFrzV 3 (aRet (aTup (aCons (aC (.str (Str.ofString "nothing"))) (aCons (aVar 3) aNil)))))))))
abbrev N_same_power : List Str := ["councils", "others", "width", "which", "pair", "sides"]
abbrev P_same_power : List Str := ["councils", "others"]
@[reducible] def t_same_power : AS :=
  (aSeq (aAsg (aMeth "Council" "width" c_Council_width (aOp dIx (aOp dAdd (aVar 0) (aVar 1)) (aC (.int 0))) aNil) (aName 2))
  (aSeq (aFor (aEnum (aCons (aData (aLst (aCons (aTup (aCons (aVar 0) (aCons (aVar 1) aNil))) (aCons (aTup (aCons (aVar 1) (aCons (aVar 0) aNil))) aNil)))) aNil)) (aGTup 2 (aGCons (aName 3) (aGCons (aName 4) aGNil)))
  (aSeq (aAsg (aCB c_first_least (aCons (aCB c_gains (aCons (aOp dIx (aVar 4) (aC (.int 0))) (aCons (aOp dIx (aVar 4) (aC (.int 1))) (aCons (aVar 2) aNil)))) aNil)) (aName 5))
  (aIfS (aTest (aOp dNotN (aVar 5) (aC .non))) (aRet (aTup (aCons (aVar 3) (aCons (aVar 5) aNil)))) aNext)))
  (aRet (aC .non))))
theorem l_all_sides : ∀ ds κ R, c_all_sides ds κ R → ds.length = P_all_sides.length := by
  rintro ds κ R ⟨_, rfl, _⟩
  rfl
theorem l_first_least : ∀ ds κ R, c_first_least ds κ R → ds.length = P_first_least.length := by
  rintro ds κ R ⟨_, rfl, _⟩
  rfl
theorem l_gains : ∀ ds κ R, c_gains ds κ R → ds.length = P_gains.length := by
  rintro ds κ R ⟨_, _, _, rfl, _⟩
  rfl
theorem l_compare : ∀ ds κ R, c_compare ds κ R → ds.length = P_compare.length := by
  rintro ds κ R ⟨_, _, rfl, _⟩
  rfl
theorem l_same_power : ∀ ds κ R, c_same_power ds κ R → ds.length = P_same_power.length := by
  rintro ds κ R ⟨_, _, _, rfl, _⟩
  rfl
theorem allS_len (w : Nat) : (allS w).length = 2 * w := by
  induction w with
  | zero => rfl
  | succ w ih =>
    rw [allS, List.range_succ, List.flatMap_append, List.length_append]
    rw [allS] at ih
    rw [ih]
    simp
    omega
theorem mem_allS {w : Nat} {s : Sd} : s ∈ allS w ↔ s.1 < w := by
  obtain ⟨c, b⟩ := s
  rw [allS, List.mem_flatMap]
  constructor
  · rintro ⟨d, hd, h⟩
    have hd := List.mem_range.mp hd
    simp at h
    rcases h with ⟨rfl, _⟩ | ⟨rfl, _⟩ <;> exact hd
  · intro h
    refine ⟨c, List.mem_range.mpr h, ?_⟩
    cases b <;> simp
theorem comp2_all {R : List D → Cs → Prop} {ρ : Rho} {κ : Cs} (hρ : ∃ x, ρ = [x, none, none]) : ∀ (xs : List Nat) (acc : List Sd), acc.length + 2 * xs.length ≤ 1000 → R ((acc ++ xs.flatMap fun c => [(c, true), (c, false)]).map sideD) κ →
    compL2 (aName 1) aYes (aIt (aTup (aCons (aC (.str (Str.ofString "least"))) (aCons (aC (.str (Str.ofString "most"))) aNil)))) (aName 2) aYes (aTup (aCons (aVar 1) (aCons (aVar 2) aNil))) [2] ρ (xs.map fun c => D.int (0 + (c : Nat))) (acc.map sideD) κ R := by
  obtain ⟨x, rfl⟩ := hρ
  intro xs
  induction xs with
  | nil =>
    intro acc _ h
    simpa [compL2] using h
  | cons c xs ih =>
    intro acc hn h
    rw [List.length_cons] at hn
    have e : (acc ++ [(c, true), (c, false)]).map sideD = acc.map sideD ++ [D.tup [.int (c : Nat), .str (Str.ofString "least")], D.tup [.int (c : Nat), .str (Str.ofString "most")]] := by
      rw [List.map_append]
      rfl
    have ih' := ih (acc ++ [(c, true), (c, false)]) (by rw [List.length_append]; simp; omega) (by simpa using h)
    rw [e] at ih'
    simp [-Bool.exists_bool, compL2, compL, awipe]
    refine ⟨by omega, by omega, ?_⟩
    simpa using ih'
theorem b_all_sides : Body N_all_sides t_all_sides c_all_sides := by
  rintro ds κ R co ⟨w, rfl, hw, h⟩
  simp [-Bool.exists_bool, start, List.replicate]
  refine ⟨by omega, ?_⟩
  exact comp2_all ⟨_, rfl⟩ (List.range w) [] (by simp; omega) (.inl (by simpa [allS] using h))
theorem best_min (bt : Nat → Nat → Bool) (le : Nat → Nat → Prop) (hbt : ∀ i j, bt i j = true ↔ ¬le j i) (tr : ∀ i j k, le i j → le j k → le i k) (tot : ∀ i j, le i j ∨ le j i) : ∀ n : Nat, argBest bt n ≤ n ∧ ∀ j, j ≤ n → le (argBest bt n) j := by
  intro n
  induction n with
  | zero => exact ⟨Nat.le_refl _, fun j hj => by
      have : j = 0 := by omega
      subst this
      exact (tot 0 0).elim id id⟩
  | succ n ih =>
    rw [argBest]
    by_cases q : bt (n + 1) (argBest bt n) = true
    · rw [if_pos q]
      have h1 := (hbt _ _).mp q
      refine ⟨Nat.le_refl _, fun j hj => ?_⟩
      by_cases hj' : j = n + 1
      · subst hj'
        exact (tot _ _).elim id id
      · exact tr _ _ _ ((tot _ _).resolve_right h1) (ih.2 j (by omega))
    · rw [if_neg q]
      refine ⟨by omega, fun j hj => ?_⟩
      by_cases hj' : j = n + 1
      · subst hj'
        exact Classical.byContradiction fun z => q ((hbt _ _).mpr z)
      · exact ih.2 j (by omega)
theorem dataLt_le (k : Nat → PyData) (i j : Nat) : PySem.W.dataLt (k i) (k j) = true ↔ ¬(PySem.W.dataLe false k j i = true) := by
  rw [PySem.W.dataLe_eq]
  simp
theorem best_of (found : List (List Sd)) (hne : found ≠ []) : ∃ L ∈ found, found[bestL (found.map fun L => pyOf (lF sideD L))]? = some L ∧ ∀ M ∈ found, PySem.W.dataLt (keyP M) (keyP L) = false := by
  have hl : 0 < found.length := List.length_pos_iff.mpr hne
  have hk : ∀ i, i < found.length → (found.map fun L => pyOf (lF sideD L)).getD i .none = pyOf (lF sideD (found.getD i [])) := fun i hi => by
    rw [getD_lt (by rwa [List.length_map]), getD_lt hi, List.getElem_map]
  let k : Nat → PyData := fun i => .tuple [.int (lenP ((found.map fun L => pyOf (lF sideD L)).getD i .none)), (found.map fun L => pyOf (lF sideD L)).getD i .none]
  have T := PySem.W.sortLe_total (PyProof.Rows.listOrd PyProof.Rows.itemOrd) false fun b : Nat => PySem.W.keyToks (k b)
  have hb := best_min (fun i j => PySem.W.dataLt (k i) (k j)) (fun i j => PySem.W.dataLe false k i j = true) (fun i j => dataLt_le k i j) (fun i j l h1 h2 => T.trans i j l h1 h2) (fun i j => T.total i j) (found.length - 1)
  have e1 : bestL (found.map fun L => pyOf (lF sideD L)) = argBest (fun i j => PySem.W.dataLt (k i) (k j)) (found.length - 1) := by rw [bestL, List.length_map]
  have ek : ∀ i, i < found.length → k i = keyP (found.getD i []) := fun i hi => by
    show PyData.tuple _ = _
    rw [hk i hi, keyP]
    congr 2
    rw [lF, pyOf, lenP, pysOf_eq, List.length_map, List.length_map]
  have hbl : bestL (found.map fun L => pyOf (lF sideD L)) < found.length := by rw [e1]; omega
  refine ⟨found[bestL (found.map fun L => pyOf (lF sideD L))], List.getElem_mem hbl, List.getElem?_eq_getElem hbl, fun M hM => ?_⟩
  obtain ⟨j, hj, rfl⟩ := List.getElem_of_mem hM
  have h2 := hb.2 j (by omega)
  rw [← e1] at h2
  cases q : PySem.W.dataLt (keyP found[j]) (keyP found[bestL (found.map fun L => pyOf (lF sideD L))]) with
  | false => rfl
  | true =>
    have e3 := ek j hj
    have e4 := ek _ hbl
    rw [getD_lt hj] at e3
    rw [getD_lt hbl] at e4
    rw [← e3, ← e4] at q
    exact absurd h2 ((dataLt_le k _ _).mp q)
theorem b_first_least : Body N_first_least t_first_least c_first_least := by
  rintro ds κ R co ⟨found, rfl, hn, h0, h⟩
  simp [-Bool.exists_bool, start, List.replicate]
  have eL : ∀ L : List Sd, D.lst (L.map sideD) = lF sideD L := fun _ => rfl
  refine ⟨found.map fun L => L.map sideD, by rw [List.map_map]; rfl, by rw [List.length_map]; omega, fun x hx y hy => ?_, fun x hx => ?_, fun e => .inl (h0 (by simpa using e)), fun ds hd => .inl ?_⟩
  · obtain ⟨L, _, rfl⟩ := List.mem_map.mp hx
    obtain ⟨M, _, rfl⟩ := List.mem_map.mp hy
    exact sortF_side.lst.al L M
  · obtain ⟨L, _, rfl⟩ := List.mem_map.mp hx
    exact ⟨Nat.le_trans (sortF_side.lst.dp L) (by decide), plains_map plain_side L⟩
  · by_cases hne : found = []
    · subst hne
      simp at hd
    · obtain ⟨L, hL, e, hm⟩ := best_of found hne
      rw [List.map_map] at hd
      have e2 : (found.map ((fun x => pyOf (D.lst x)) ∘ fun L => L.map sideD)) = found.map fun L => pyOf (lF sideD L) := rfl
      rw [e2, List.getElem?_map, e] at hd
      obtain rfl := Option.some.inj hd
      exact h L hL hm
/-! ### the order of sides -/
theorem side_lt (s t : Sd) : PySem.W.dataLt (pyOf (sideD s)) (pyOf (sideD t)) = decide (s.1 < t.1 ∨ s.1 = t.1 ∧ s.2 = true ∧ t.2 = false) := by
  obtain ⟨c, a⟩ := s
  obtain ⟨d, b⟩ := t
  show PySem.W.dataLt (.tuple [.int (c : Nat), .str (wayS a)]) (.tuple [.int (d : Nat), .str (wayS b)]) = _
  rw [PySem.W.dataLt_tuple]
  by_cases q : c = d
  · subst q
    rw [PySem.W.dataLt_all_yes (by simp [PySem.W.alike]) (by simp [PyData.eqv])]
    cases a <;> cases b <;> simp <;> decide +kernel
  · rw [PySem.W.dataLt_all_no (by simp [PySem.W.alike]) (by simp only [PyData.eqv]; simpa using fun h => q (by omega)), PySem.W.dataLt_int]
    rw [Bool.eq_iff_iff]
    simp
    omega
def Bef (a b : Sd) : Prop := a.1 < b.1 ∨ a.1 = b.1 ∧ a.2 = true ∧ b.2 = false
theorem allS_bef (w : Nat) : (allS w).Pairwise Bef := by
  induction w with
  | zero => exact .nil
  | succ w ih =>
    have e : allS (w + 1) = allS w ++ [(w, true), (w, false)] := by rw [allS, List.range_succ, List.flatMap_append]; simp [allS]
    rw [e, List.pairwise_append]
    refine ⟨ih, ?_, fun a ha b hb => ?_⟩
    · simp [Bef]
    · have h1 := mem_allS.mp ha
      simp at hb
      rcases hb with rfl | rfl
      · exact .inl h1
      · exact .inl h1
theorem bef_ne {a b : Sd} (h : Bef a b) : a ≠ b := by
  rintro rfl
  rcases h with h | ⟨_, h1, h2⟩
  · omega
  · rw [h1] at h2
    cases h2
theorem allS_nd (w : Nat) : (allS w).Nodup := (allS_bef w).imp bef_ne
theorem allS_asc (w : Nat) : Asc sideD (allS w) := (allS_bef w).imp fun {a b} h => by
  rw [PySem.W.dataLe_eq]
  show (!PySem.W.dataLt (pyOf (sideD b)) (pyOf (sideD a))) = true
  rw [side_lt, Bool.not_eq_true', decide_eq_false_iff_not]
  rintro (h2 | ⟨h2, h3, h4⟩) <;> rcases h with h | ⟨h5, h6, h7⟩
  · omega
  · omega
  · omega
  · rw [h3] at h7
    cases h7
theorem allS_srt (w : Nat) : srt sideD (allS w) = allS w := srt_of_asc (allS_asc w)
theorem heavy_len {Hv : List Sd → Prop} {w : Nat} {heavy : List (List Sd)} (hw : w ≤ 6) (o : HeavyS sideD Hv (allS w) heavy) : heavy.length ≤ 4096 := by
  have h1 := sub_len o.nd (L' := subs (allS w)) fun L hL => mem_subs.mpr ((o.mem L).mp hL).1
  rw [subs_len, allS_len] at h1
  have h2 : 2 ^ (2 * w) ≤ 2 ^ 12 := Nat.pow_le_pow_right (by decide) (by omega)
  omega
theorem sub_ok {cs : List Cse} {w : Nat} (o : SdOk cs (allS w)) {L : List Sd} (s : L.Sublist (allS w)) : SdOk cs L := o.sub fun x hx => s.subset hx
theorem sub_le {L : List Sd} {w : Nat} (hw : w ≤ 6) (s : L.Sublist (allS w)) : L.length ≤ 12 := by
  have := s.length_le
  rw [allS_len] at this
  omega
theorem b_gains : Body N_gains t_gains c_gains := by
  rintro ds κ R co ⟨cs, os, w, rfl, hw, oc, oo, hcn, hon, h⟩
  simp [-Bool.exists_bool, start, List.replicate]
  refine ⟨w, rfl, hw, ?_⟩
  refine ⟨cs, allS w, rfl, oc, allS_nd w, by rw [allS_len]; omega, hcn, fun heavy hf => ?_⟩
  rw [allS_srt] at hf
  have hl := heavy_len hw hf
  simp [-Bool.exists_bool]
  classical
  refine comp_filt (b := lF sideD) (fun L => decide (¬HvS os L)) (by omega) (fun L hL Y Y2 h1 h2 => ?_) ?_
  · have hs := ((hf.mem L).mp hL).1
    simp [-Bool.exists_bool]
    refine ⟨os, L, rfl, sub_ok oo hs, by have := sub_le hw hs; omega, hon, fun b hb => ⟨_, rfl, ?_⟩⟩
    cases b with
    | true => exact h1 (decide_eq_true (hb.mp rfl))
    | false =>
      refine h2 (decide_eq_false fun z => ?_)
      have := hb.mpr z
      cases this
  · refine .inl (h heavy _ hf (fun L => ?_) (List.length_filter_le _ _))
    rw [List.mem_filter, decide_eq_true_eq]
theorem heavy_sub {cs os : List Cse} {w : Nat} {heavy : List (List Sd)} (oo : SdOk os (allS w)) (hf : HeavyS sideD (HvS cs) (allS w) heavy) : Sub cs os w ↔ ∀ L ∈ heavy, HvS os L := by
  constructor
  · intro h L hL
    have := (hf.mem L).mp hL
    exact h L this.1 this.2.1
  · intro h L hL hv
    obtain ⟨M, hM, hs⟩ := heavy_ext hf (allS_nd w) _ (Nat.le_refl _) hL hv
    have hM' := (hf.mem M).mp hM
    exact hv_mono (sub_ok oo hL) (sub_sub hM'.1 hL (allS_nd w) hs) (h M hM)
theorem lkW {a b : D} : List.lookup ("width" : Str) [(("seat_weights" : Str), a), (("column_quotas" : Str), b)] = none := rfl
theorem b_compare : Body N_compare t_compare c_compare := by
  rintro ds κ R co ⟨c, os, rfl, oc, oo, hon, hm, hn⟩
  have g := (oc c (by simp)).1
  have hw := g.q6
  simp [-Bool.exists_bool, start, List.replicate, cOf, cO, lkW, -List.lookup_eq_none_iff]
  refine ⟨c.1, c.2, rfl, ?_⟩
  refine ⟨[c], os, c.2.length, rfl, hw, oc, oo, by simp, hon, fun heavy found hf hfd hfl => ?_⟩
  have hhl := heavy_len hw hf
  refine ⟨found, rfl, by omega, fun he => ?_, fun L hL hmin => ?_⟩
  · have hsub : Sub [c] os c.2.length := (heavy_sub oo hf).mpr fun L hL => Classical.byContradiction fun z => by
      have := (hfd L).mpr ⟨hL, z⟩
      rw [he] at this
      cases this
    simp [-Bool.exists_bool]
    refine ⟨c.1, c.2, rfl, ?_⟩
    refine ⟨c.2.length, rfl, hw, ?_⟩
    refine ⟨[c], allS c.2.length, rfl, oc, allS_nd _, by rw [allS_len]; omega, by simp, fun heavy2 hf2 => ?_⟩
    rw [allS_srt] at hf2
    have hhl2 := heavy_len hw hf2
    simp [-Bool.exists_bool]
    refine loop_map (fun todo ρ κ' => ∃ (done : List (List Sd)) (ix : List Nat) (x4 x5 : Option D), done ++ todo = heavy2 ∧ ix.length = done.length ∧ (∀ (j : Nat) L i, done[j]? = some L → ix[j]? = some i → ∃ o, os[i]? = some o ∧ HvS [o] L) ∧
      κ' = κ ++ [some (.lst ((done.zip ix).map fun p => D.tup [lF sideD p.1, .int (p.2 : Nat)]))] ∧ ρ = [some (cOf c), some (.lst (os.map cOf)), some .non, some (.cell κ.length), x4, x5, none, none]) ⟨[], [], _, _, rfl, rfl, by simp, rfl, rfl⟩ ?_ ?_
    · rintro L todo ρ κ' ⟨done, ix, x4, x5, hd, hil, hix, rfl, rfl⟩ Z hZ
      have hL : L ∈ heavy2 := by rw [← hd]; simp
      have hL' := (hf2.mem L).mp hL
      have hdl : done.length + todo.length + 1 = heavy2.length := by rw [← hd]; simp; omega
      have hos := hsub L hL'.1 hL'.2.1
      simp [-Bool.exists_bool]
      rw [enumD_map (([], []) : Cse)]
      classical
      refine comp_filt (p := fun i => decide (HvS [os.getD i ([], [])] L)) (b := fun i => D.int (i : Nat)) (by simp; omega) (fun i hi Y Y2 h1 h2 => ?_) ?_
      · have hi := List.mem_range.mp hi
        simp [-Bool.exists_bool, -List.getD_eq_getElem?_getD]
        refine ⟨[os.getD i ([], [])], L, rfl, fun o ho => ?_, by have := sub_le hw hL'.1; omega, by simp, fun b hb => ⟨_, rfl, ?_⟩⟩
        · rw [List.mem_singleton.mp ho, getD_lt hi]
          exact sub_ok oo hL'.1 _ (List.getElem_mem hi)
        · cases b with
          | true => exact h2 (decide_eq_false (hb.mp rfl))
          | false =>
            refine h1 (decide_eq_true (Classical.byContradiction fun z => ?_))
            have := hb.mpr z
            cases this
      · cases hp : (List.range os.length).filter fun i => decide (HvS [os.getD i ([], [])] L) with
        | nil =>
          obtain ⟨o, ho, hv⟩ := hos
          obtain ⟨i, hi, e⟩ := List.getElem_of_mem ho
          rw [List.filter_eq_nil_iff] at hp
          exact absurd (decide_eq_true ⟨o, by rw [getD_lt hi, e]; simp, hv⟩) (hp i (List.mem_range.mpr hi))
        | cons i0 rest =>
          have hm0 : i0 ∈ (List.range os.length).filter fun i => decide (HvS [os.getD i ([], [])] L) := by rw [hp]; simp
          have hi0 := List.mem_range.mp (List.mem_filter.mp hm0).1
          have hv0 := of_decide_eq_true (List.mem_filter.mp hm0).2
          rw [getD_lt hi0] at hv0
          simp [-Bool.exists_bool, own_get rfl, own_set rfl]
          refine ⟨by omega, hZ _ _ ⟨done ++ [L], ix ++ [i0], _, _, by simp [hd], by simp [hil], fun j M i e1 e2 => ?_, ?_, rfl⟩⟩
          · by_cases q : j < done.length
            · rw [List.getElem?_append_left q] at e1
              rw [List.getElem?_append_left (by omega)] at e2
              exact hix j M i e1 e2
            · rw [List.getElem?_append_right (by omega)] at e1
              rw [List.getElem?_append_right (by omega), hil] at e2
              cases hj : j - done.length with
              | succ k => rw [hj] at e1; simp at e1
              | zero =>
                rw [hj] at e1 e2
                simp at e1 e2
                subst e1 e2
                exact ⟨_, List.getElem?_eq_getElem hi0, hv0⟩
          · rw [List.zip_append hil.symm, List.map_append]
            rfl
    · rintro ρ κ' ⟨done, ix, x4, x5, hd, hil, hix, rfl, rfl⟩
      rw [List.append_nil] at hd
      subst hd
      simp [-Bool.exists_bool, own_get rfl, own_set rfl]
      refine fin_app co ?_ (hn hsub done ix hf2 hil hix)
      simp only [blw, blws, Bool.and_true, Bool.true_and]
      exact blws_map _ (fun p => by simp only [blw, blws, lF, Bool.and_true]; exact blws_map _ (blw_sideD _) p.1) _
  · have hL2 := (hfd L).mp hL
    simp [-Bool.exists_bool, lF]
    exact .inl (hm L ⟨heavy, hf, hL2.1, hL2.2, fun M hM hv => hmin M ((hfd M).mpr ⟨hM, hv⟩)⟩)
theorem b_same_power : Body N_same_power t_same_power c_same_power := by
  rintro ds κ R co ⟨cs, os, w, rfl, hw, oc, oo, hcn, hon, hne, hcw, h1, h2⟩
  obtain ⟨c, cs, rfl⟩ := List.exists_cons_of_ne_nil hne
  have hc := hcw c (by simp)
  simp [-Bool.exists_bool, start, List.replicate, cOf, cO, lkW, -List.lookup_eq_none_iff]
  refine ⟨by simp at hcn; omega, c.1, c.2, rfl, ?_⟩
  rw [hc]
  simp [-Bool.exists_bool, enumD, aLoop]
  refine ⟨c :: cs, os, w, rfl, hw, oc, oo, hcn, hon, fun heavy found hf hfd hfl => ?_⟩
  have hhl := heavy_len hw hf
  refine ⟨found, rfl, by omega, fun he => ?_, fun L hL hmin => ?_⟩
  · have hs1 : Sub (c :: cs) os w := (heavy_sub oo hf).mpr fun L hL => Classical.byContradiction fun z => by
      have := (hfd L).mpr ⟨hL, z⟩
      rw [he] at this
      cases this
    simp [-Bool.exists_bool]
    refine ⟨os, c :: cs, w, rfl, hw, oo, oc, hon, hcn, fun heavy2 found2 hf2 hfd2 hfl2 => ?_⟩
    have hhl2 := heavy_len hw hf2
    refine ⟨found2, rfl, by omega, fun he2 => ?_, fun L hL hmin => ?_⟩
    · have hs2 : Sub os (c :: cs) w := (heavy_sub oc hf2).mpr fun L hL => Classical.byContradiction fun z => by
        have := (hfd2 L).mpr ⟨hL, z⟩
        rw [he2] at this
        cases this
      simp [-Bool.exists_bool]
      exact .inl (h1 hs1 hs2)
    · have hL2 := (hfd2 L).mp hL
      simp [-Bool.exists_bool, lF]
      refine .inl (h2 1 L fun z => hL2.2 ?_)
      have hL3 := (hf2.mem L).mp hL2.1
      exact z.2 L hL3.1 hL3.2.1
  · have hL2 := (hfd L).mp hL
    simp [-Bool.exists_bool, lF]
    refine .inl (h2 0 L fun z => hL2.2 ?_)
    have hL3 := (hf.mem L).mp hL2.1
    exact z.1 L hL3.1 hL3.2.1
end PD
set_option Elab.async false
set_option linter.all false
set_option maxRecDepth 100000
set_option maxHeartbeats 4000000
/-! Power: lists of indexes, the fewest councils. -/
namespace PD
open PySem PySem.Spec PyProof.Rows L2
def beginX (s : List Nat) : Nat := match s.getLast? with
  | none => 0
  | some x => x + 1
def longX (n : Nat) (s : List Nat) : List (List Nat) := (List.range (n - beginX s)).map fun j => s ++ [beginX s + j]
def idxL (n : Nat) : Nat → List (List Nat)
  | 0 => [[]]
  | k + 1 => (idxL n k).flatMap (longX n)
def c_index_lists : Con := fun ds κ R => ∃ n k : Nat, ds = [.int (n : Nat), .int (k : Nat)] ∧ n ≤ 5 ∧ k ≤ 6 ∧ R (.lst ((idxL n k).map lX)) κ
abbrev zC : Cse := ([], [])
def pickC (cs : List Cse) (s : List Nat) : List Cse := s.map fun i => cs.getD i zC
open Classical in
noncomputable def fewP (cs : List Cse) (w : Nat) (s : List Nat) : Bool := decide (Sub cs (pickC cs s) w)
theorem fewP_iff {cs : List Cse} {w : Nat} {s : List Nat} : fewP cs w s = true ↔ Sub cs (pickC cs s) w := by
  classical
  rw [fewP, decide_eq_true_eq]
noncomputable def fewAt (cs : List Cse) (w k : Nat) : List (List Nat) := (idxL cs.length k).filter (fewP cs w)
noncomputable def fewL (cs : List Cse) (w : Nat) : List (List Nat) := (((List.range (cs.length + 1)).map (fewAt cs w)).find? fun f => decide (f ≠ [])).getD []
def c_fewest : Con := fun ds κ R => ∃ (cs : List Cse) (w : Nat), ds = [.lst (cs.map cOf)] ∧ w ≤ 6 ∧ cs ≠ [] ∧ cs.length ≤ 5 ∧ SdOk cs (allS w) ∧ (∀ c ∈ cs, c.2.length = w) ∧ R (.lst ((fewL cs w).map lX)) κ
abbrev N_index_lists : List Str := ["many", "size", "found", "turn", "longer", "some", "begin", "index"]
abbrev P_index_lists : List Str := ["many", "size"]
@[reducible] def t_index_lists : AS :=
  (aSeq (aAsg (aData (aLst (aCons (aData (aLst aNil)) aNil))) (aName 2))
  (aSeq (aFor (aRng1 (aCons (aVar 1) aNil)) (aName 3)
  (aSeq (aAsg (aCell (aLst aNil)) (aName 4))
  (aSeq (aFor (aIt (aVar 2)) (aName 5)
  (aSeq (aAsg (aIf (aTest (aOp dNe (aVar 5) (aData (aLst aNil)))) (aOp dAdd (aOp dIx (aVar 5) (aUn dNeg (aC (.int 1)))) (aC (.int 1))) (aC (.int 0))) (aName 6))
  (aDrop (aExt (aVar 4) (aData (aComp (aRng2 (aCons (aVar 6) (aCons (aVar 0) aNil))) (aName 7) aYes (aOp dAdd (aVar 5) (aData (aLst (aCons (aVar 7) aNil)))) [7]))))))
  (aFrzV 4 (aAsg (aVar 4) (aName 2))))))
  (aRet (aVar 2))))
abbrev N_fewest : List Str := ["councils", "sides", "tables", "council", "whole", "size", "found", "some", "joined", "index", "mask"]
abbrev P_fewest : List Str := ["councils"]
@[reducible] def t_fewest : AS :=
  (aSeq (aAsg (aCB c_all_sides (aCons (aMeth "Council" "width" c_Council_width (aOp dIx (aVar 0) (aC (.int 0))) aNil) aNil)) (aName 1))
  (aSeq (aAsg (aData (aComp (aIt (aVar 0)) (aName 3) aYes (aCB c_heavy_table (aCons (aData (aLst (aCons (aVar 3) aNil))) (aCons (aVar 1) aNil))) [3])) (aName 2))
  (aSeq (aAsg (aCB c_heavy_table (aCons (aVar 0) (aCons (aVar 1) aNil))) (aName 4))
  (aSeq (aFor (aRng1 (aCons (aOp dAdd (aCB dLen (aCons (aVar 0) aNil)) (aC (.int 1))) aNil)) (aName 5)
  (aSeq (aAsg (aCell (aLst aNil)) (aName 6))
  (aSeq (aFor (aIt (aCB c_index_lists (aCons (aCB dLen (aCons (aVar 0) aNil)) (aCons (aVar 5) aNil)))) (aName 7)
  (aSeq (aAsg (aData (aComp (aRng1 (aCons (aCB dLen (aCons (aVar 4) aNil)) aNil)) (aName 10) aYes (aCB dAny (aCons (aData (aComp (aIt (aVar 7)) (aName 9) aYes (aOp dIx (aOp dIx (aVar 2) (aVar 9)) (aVar 10)) [9])) aNil)) [10])) (aName 8))
  (aIfS (aTest (aOp dEq (aVar 8) (aVar 4))) (aDrop (aApp (aVar 6) (aVar 7))) aNext)))
  (aFrzV 6 (aIfS (aTest (aOp dNe (aVar 6) (aData (aLst aNil)))) (aRet (aVar 6)) aNext)))))
  (aRet (aData (aLst aNil)))))))
theorem l_index_lists : ∀ ds κ R, c_index_lists ds κ R → ds.length = P_index_lists.length := by
  rintro ds κ R ⟨_, _, rfl, _⟩
  rfl
theorem l_fewest : ∀ ds κ R, c_fewest ds κ R → ds.length = P_fewest.length := by
  rintro ds κ R ⟨_, _, rfl, _⟩
  rfl
theorem longX_len (n : Nat) (s : List Nat) : (longX n s).length ≤ n := by
  rw [longX, List.length_map, List.length_range]
  omega
theorem flatX_len (n : Nat) : ∀ ss : List (List Nat), (ss.flatMap (longX n)).length ≤ n * ss.length
  | [] => by simp
  | s :: ss => by
    rw [List.flatMap_cons, List.length_append, List.length_cons, Nat.mul_add]
    have h1 := longX_len n s
    have h2 := flatX_len n ss
    omega
theorem idxL_len (n : Nat) : ∀ k, (idxL n k).length ≤ n ^ k
  | 0 => by simp [idxL]
  | k + 1 => by
    have h1 := flatX_len n (idxL n k)
    have h2 := Nat.mul_le_mul_left n (idxL_len n k)
    rw [idxL, Nat.pow_succ, Nat.mul_comm (n ^ k)]
    omega
theorem idxL_bound {n k : Nat} (hn : n ≤ 5) (hk : k ≤ 6) : (idxL n k).length ≤ 15625 := by
  have h1 := idxL_len n k
  have h2 : n ^ k ≤ 5 ^ k := Nat.pow_le_pow_left hn k
  have h3 : 5 ^ k ≤ 5 ^ 6 := Nat.pow_le_pow_right (by decide) hk
  omega
theorem idxL_lt {n : Nat} : ∀ {k : Nat} {s : List Nat}, s ∈ idxL n k → s.length = k ∧ ∀ i ∈ s, i < n
  | 0, s, h => by
    rw [idxL, List.mem_singleton] at h
    subst h
    exact ⟨rfl, fun i hi => nomatch hi⟩
  | k + 1, s, h => by
    rw [idxL, List.mem_flatMap] at h
    obtain ⟨t, ht, h⟩ := h
    obtain ⟨h1, h2⟩ := idxL_lt ht
    obtain ⟨j, hj, rfl⟩ := List.mem_map.mp h
    have hj := List.mem_range.mp hj
    refine ⟨by rw [List.length_append, h1]; rfl, fun i hi => ?_⟩
    rcases List.mem_append.mp hi with hi | hi
    · exact h2 i hi
    · rw [List.mem_singleton] at hi
      omega
/-- all indexes at once -/
theorem idxL_all (n : Nat) : ∀ k, k ≤ n → List.range k ∈ idxL n k
  | 0, _ => by simp [idxL]
  | k + 1, h => by
    rw [idxL, List.mem_flatMap]
    refine ⟨List.range k, idxL_all n k (by omega), ?_⟩
    have hb : beginX (List.range k) = k := by
      cases k with
      | zero => rfl
      | succ k => rw [List.range_succ, beginX]; simp
    rw [longX, List.mem_map]
    exact ⟨0, List.mem_range.mpr (by omega), by rw [hb, List.range_succ]; rfl⟩
theorem beginX_snoc (s : List Nat) (x : Nat) : beginX (s ++ [x]) = x + 1 := by simp [beginX]
def natD (n : Nat) : D := .int (n : Nat)
theorem eqF_nat : EqF natD 0 where
  eq x y := by simp only [natD, eqD, pyOf, PyData.eqv]; exact Bool.eq_iff_iff.mpr (by simp; omega)
  pl _ := rfl
  dp _ := by simp [natD, dep]
theorem lX_lF (s : List Nat) : lX s = lF natD s := rfl
theorem b_index_lists : Body N_index_lists t_index_lists c_index_lists := by
  rintro ds κ R co ⟨n, k, rfl, hn, hk, h⟩
  simp [-Bool.exists_bool, start, List.replicate]
  refine ⟨by omega, ?_⟩
  refine loop_rng (fun i ρ κ' => κ' = κ ++ List.replicate i none ∧ ∃ x3 x4 x5 x6 x7, ρ = [some (.int (n : Nat)), some (.int (k : Nat)), some (.lst ((idxL n i).map lX)), x3, x4, x5, x6, x7]) ⟨by simp, _, _, _, _, _, rfl⟩ ?_ ?_
  · rintro i ρ κ' hi ⟨rfl, x3, x4, x5, x6, x7, rfl⟩ Z hZ
    have hb := idxL_bound hn (show i + 1 ≤ 6 by omega)
    simp [-Bool.exists_bool]
    refine loop_map (fun todo ρ κ' => ∃ done, done ++ todo = idxL n i ∧ κ' = (κ ++ List.replicate i none) ++ [some (.lst ((done.flatMap (longX n)).map lX))] ∧ ∃ x5 x6 x7, ρ = [some (.int (n : Nat)), some (.int (k : Nat)), some (.lst ((idxL n i).map lX)), some (.int (i : Nat)), some (.cell (κ.length + i)), x5, x6, x7]) ⟨[], rfl, by simp, _, _, _, rfl⟩ ?_ ?_
    · rintro s todo ρ κ' ⟨done, hd, rfl, x5, x6, x7, rfl⟩ Z' hZ'
      have hs : s ∈ idxL n i := by rw [← hd]; simp
      obtain ⟨sl, slt⟩ := idxL_lt hs
      have hl : (κ ++ List.replicate i none).length = κ.length + i := by simp
      have hdl : ((done ++ [s]).flatMap (longX n)).length ≤ 15625 := by
        have : (idxL n (i + 1)) = (done ++ [s]).flatMap (longX n) ++ todo.flatMap (longX n) := by
          rw [idxL, ← hd, ← List.flatMap_append]
          simp
        rw [this, List.length_append] at hb
        omega
      rw [List.flatMap_append, List.length_append] at hdl
      have key : ∀ (b : Int) (m : Nat), b = (beginX s : Nat) → m = n - beginX s → compL (aName 7) aYes (aOp dAdd (aVar 5) (aData (aLst (aCons (aVar 7) aNil)))) [some (D.int n), some (D.int k), some (D.lst (List.map lX (idxL n i))), some (D.int i), some (D.cell (List.length κ + i)), some (lX s), some (D.int b), none]
          (rangeD b m) [] (κ ++ (List.replicate i none ++ [some (Ce.lst (List.map lX (List.flatMap (longX n) done)))])) fun ds κ' => ∃ ds_1, κ'[List.length κ + i]? = some (some (Ce.lst ds_1)) ∧ ds_1.length + ds.length ≤ 16777216 ∧
            Z' [some (D.int n), some (D.int k), some (D.lst (List.map lX (idxL n i))), some (D.int i), some (D.cell (List.length κ + i)), some (lX s), some (D.int b), x7] (List.set κ' (List.length κ + i) (some (Ce.lst (ds_1 ++ ds)))) := fun b m hb1 hm => by
        subst hb1 hm
        rw [← List.append_assoc]
        refine comp_pure (a := fun j : Nat => D.int ((beginX s : Nat) + (j : Nat))) (b := fun j => lX (s ++ [beginX s + j])) (by simp; omega) (fun j hj Z0 hZ0 => ?_) ?_
        · simp [-Bool.exists_bool, lX]
          refine ⟨by omega, ?_⟩
          simpa [lX] using hZ0
        · refine ⟨_, own_get hl, ?_, ?_⟩
          · simp [longX] at hdl ⊢
            omega
          · rw [own_set hl]
            refine hZ' _ _ ⟨done ++ [s], by simp [hd], ?_, _, _, _, rfl⟩
            rw [List.flatMap_append, List.map_append]
            simp [longX]
      simp [-Bool.exists_bool]
      split
      · rename_i e
        subst e
        exact ⟨by omega, key 0 n rfl rfl⟩
      · rename_i e
        obtain ⟨t, x, rfl⟩ := (List.eq_nil_or_concat s).resolve_left e
        simp only [List.concat_eq_append] at *
        have hx := slt x (by simp)
        refine ⟨.int (x : Nat), by simp [atI_last], ?_⟩
        simp [-Bool.exists_bool]
        exact ⟨by omega, key _ _ (by rw [beginX_snoc]; omega) (by rw [beginX_snoc]; omega)⟩
    · rintro ρ κ' ⟨done, hd, rfl, x5, x6, x7, rfl⟩
      rw [List.append_nil] at hd
      subst hd
      have hl : (κ ++ List.replicate i none).length = κ.length + i := by simp
      simp only [List.getElem?_cons_succ, List.getElem?_cons_zero]
      simp [-Bool.exists_bool, own_get hl, own_set hl]
      refine hZ _ _ ⟨?_, _, _, _, _, _, rfl⟩
      rw [List.replicate_succ']
  · rintro ρ κ' ⟨rfl, x3, x4, x5, x6, x7, rfl⟩
    simp [-Bool.exists_bool]
    refine fin_app co ?_ h
    rw [blw]
    exact blws_map _ (fun L => by rw [lX, blw]; exact blws_map _ (fun _ => rfl) L) _
theorem eqF_bl : EqF D.bl 0 where
  eq x y := by simp only [eqD, pyOf, PyData.eqv]; cases x <;> cases y <;> decide
  pl _ := rfl
  dp _ := by simp [dep]
theorem tabB_lF (f : Nat → Bool) (n : Nat) : D.lst (tabB f n) = lF D.bl ((List.range n).map f) := by rw [lF, tabB, List.map_map]; rfl
theorem pickC_hv {cs : List Cse} {s : List Nat} {L : List Sd} (hs : ∀ i ∈ s, i < cs.length) : HvS (pickC cs s) L ↔ ∃ i, ∃ h : i < cs.length, i ∈ s ∧ HvS [cs[i]] L := by
  constructor
  · rintro ⟨c, hc, p⟩
    obtain ⟨i, hi, rfl⟩ := List.mem_map.mp hc
    refine ⟨i, hs i hi, hi, _, List.mem_singleton_self _, ?_⟩
    rwa [getD_lt (hs i hi)] at p
  · rintro ⟨i, h, hi, c, hc, p⟩
    rw [List.mem_singleton.mp hc] at p
    exact ⟨cs.getD i zC, List.mem_map.mpr ⟨i, hi, rfl⟩, by rw [getD_lt h]; exact p⟩
theorem few_iff {cs : List Cse} {w : Nat} {s : List Nat} {hb0 : Nat → Bool} {hbs : List (Nat → Bool)} (hs : ∀ i ∈ s, i < cs.length) (t0 : MaskT (HvS cs) zS (allS w) hb0) (hl : hbs.length = cs.length)
    (ht : ∀ (i : Nat) c hb, cs[i]? = some c → hbs[i]? = some hb → MaskT (HvS [c]) zS (allS w) hb) :
    (List.range (2 ^ (allS w).length)).map (fun m => s.any fun i => hbs.getD i (fun _ => false) m) = (List.range (2 ^ (allS w).length)).map hb0 ↔ Sub cs (pickC cs s) w := by
  have key : ∀ m, m < 2 ^ (allS w).length → ((s.any fun i => hbs.getD i (fun _ => false) m) = true ↔ HvS (pickC cs s) (memb zS (allS w) m)) := fun m hm => by
    rw [List.any_eq_true, pickC_hv hs]
    constructor
    · rintro ⟨i, hi, h⟩
      have hi' := hs i hi
      rw [getD_lt (by omega)] at h
      exact ⟨i, hi', hi, ((ht i _ _ (List.getElem?_eq_getElem hi') (List.getElem?_eq_getElem (by omega))).is m hm).mp h⟩
    · rintro ⟨i, h, hi, p⟩
      refine ⟨i, hi, ?_⟩
      rw [getD_lt (by omega)]
      exact ((ht i _ _ (List.getElem?_eq_getElem h) (List.getElem?_eq_getElem (by omega))).is m hm).mpr p
  have sub : ∀ L, HvS (pickC cs s) L → HvS cs L := fun L h => by
    obtain ⟨i, h, _, c, hc, p⟩ := (pickC_hv hs).mp h
    rw [List.mem_singleton.mp hc] at p
    exact ⟨_, List.getElem_mem h, p⟩
  constructor
  · intro e L hL hv
    obtain ⟨m, hm, rfl⟩ := memb_of (z := zS) hL (allS_nd w)
    have e1 := List.map_inj_left.mp e m (List.mem_range.mpr hm)
    rw [← key m hm, e1]
    exact (t0.is m hm).mpr hv
  · intro h
    refine List.map_congr_left fun m hm => ?_
    have hm := List.mem_range.mp hm
    rw [Bool.eq_iff_iff, key m hm, t0.is m hm]
    exact ⟨sub _, h _ (memb_sub _ _ _)⟩
theorem few_find {f : Nat → List (List Nat)} : ∀ (m i : Nat), i < m → (∀ j, j < i → f j = []) → f i ≠ [] → (((List.range m).map f).find? fun x => decide (x ≠ [])).getD [] = f i := by
  intro m i hi h0 h1
  have e : List.range m = List.range i ++ i :: (List.range' (i + 1) (m - i - 1)) := by
    rw [List.range_eq_range', List.range_eq_range', show m = i + (1 + (m - i - 1)) by omega, ← List.range'_append_1, Nat.zero_add, show 1 + (m - i - 1) = (m - i - 1) + 1 by omega, List.range'_succ]
    congr 3
    omega
  rw [e, List.map_append, List.find?_append]
  have e1 : ((List.range i).map f).find? (fun x => decide (x ≠ [])) = none := by
    rw [List.find?_eq_none]
    intro x hx
    obtain ⟨j, hj, rfl⟩ := List.mem_map.mp hx
    rw [h0 j (List.mem_range.mp hj)]
    simp
  rw [e1, List.map_cons, List.find?_cons, decide_eq_true h1]
  rfl
theorem few_first {cs : List Cse} {w i : Nat} (hi : i < cs.length + 1) (h0 : ∀ j, j < i → fewAt cs w j = []) (h1 : fewAt cs w i ≠ []) : fewL cs w = fewAt cs w i := few_find _ i hi h0 h1
theorem few_some (cs : List Cse) (w : Nat) : fewAt cs w cs.length ≠ [] := by
  intro e
  have h : List.range cs.length ∈ fewAt cs w cs.length := by
    rw [fewAt, List.mem_filter]
    refine ⟨idxL_all _ _ (Nat.le_refl _), ?_⟩
    rw [fewP_iff]
    intro L _ hv
    have : pickC cs (List.range cs.length) = cs := range_getD zC cs
    rwa [this]
  rw [e] at h
  cases h
theorem few_no {cs : List Cse} {w : Nat} {s : List Nat} {done : List (List Nat)} (h : ¬Sub cs (pickC cs s) w) : (done ++ [s]).filter (fewP cs w) = done.filter (fewP cs w) := by
  rw [List.filter_append, List.filter_cons, if_neg (by rw [fewP_iff]; exact h)]
  simp
theorem few_yes {cs : List Cse} {w : Nat} {s : List Nat} {done : List (List Nat)} (h : Sub cs (pickC cs s) w) : (done ++ [s]).filter (fewP cs w) = done.filter (fewP cs w) ++ [s] := by
  rw [List.filter_append, List.filter_cons, if_pos (by rw [fewP_iff]; exact h)]
  simp
theorem b_fewest : Body N_fewest t_fewest c_fewest := by
  rintro ds κ R co ⟨cs, w, rfl, hw, hne, hn, oc, hcw, h⟩
  obtain ⟨c, hc0⟩ : ∃ c, cs[0]? = some c := ⟨_, List.getElem?_eq_getElem (List.length_pos_iff.mpr hne)⟩
  have hc := hcw c (List.mem_of_getElem? hc0)
  have e0 : atI (cs.map cOf) 0 = some (cOf c) := by
    rw [show (0 : Int) = ((0 : Nat) : Int) from rfl, atI_map (List.length_pos_iff.mpr hne)]
    rw [List.getElem?_eq_getElem (List.length_pos_iff.mpr hne)] at hc0
    rw [Option.some.inj hc0]
  have hpow : 2 ^ (allS w).length ≤ 4096 := by
    rw [allS_len]
    exact Nat.le_trans (Nat.pow_le_pow_right (by decide) (show 2 * w ≤ 12 by omega)) (by decide)
  simp [-Bool.exists_bool, start, List.replicate, e0, -List.lookup_eq_none_iff]
  refine ⟨_, rfl, lkW, c.1, c.2, rfl, ?_⟩
  rw [hc]
  refine ⟨w, rfl, hw, ?_⟩
  simp [-Bool.exists_bool]
  refine comp_st (b := fun hb => D.lst (tabB hb (2 ^ (allS w).length))) (fun (c : Cse) hb => MaskT (HvS [c]) zS (allS w) hb) (fun κ' => κ' = κ) rfl (by omega) (fun c κ' hcm e Z hZ => ?_) fun hbs κ' hl hbs' e => ?_
  · subst e
    simp [-Bool.exists_bool]
    exact ⟨[c], allS w, rfl, fun d hd => by rw [List.mem_singleton.mp hd]; exact oc c hcm, by rw [allS_len]; omega, by simp, fun hb hhb => hZ hb _ hhb rfl⟩
  · subst e
    refine ⟨cs, allS w, rfl, oc, by rw [allS_len]; omega, by omega, fun hb0 t0 => ?_⟩
    simp [-Bool.exists_bool]
    refine ⟨by omega, ?_⟩
    refine loop_rng (fun i ρ κ'' => κ'' = κ' ++ List.replicate i none ∧ (∀ j, j < i → fewAt cs w j = []) ∧ ∃ x5 x6 x7 x8 x9 x10, ρ = [some (.lst (cs.map cOf)), some (.lst ((allS w).map sideD)), some (.lst (hbs.map fun hb => D.lst (tabB hb (2 ^ (allS w).length)))), none, some (.lst (tabB hb0 (2 ^ (allS w).length))), x5, x6, x7, x8, x9, x10]) ⟨by simp, fun j hj => by omega, _, _, _, _, _, _, rfl⟩ ?_ ?_
    · rintro i ρ κ2 hi ⟨rfl, hj, x5, x6, x7, x8, x9, x10, rfl⟩ Z hZ
      have hib := idxL_bound hn (show i ≤ 6 by omega)
      have hl0 : (κ' ++ List.replicate i none).length = κ'.length + i := by simp
      simp [-Bool.exists_bool]
      refine ⟨cs.length, i, rfl, hn, by omega, ?_⟩
      refine loop_map (fun todo ρ κ'' => ∃ done x7 x8 x9 x10, done ++ todo = idxL cs.length i ∧ κ'' = (κ' ++ List.replicate i none) ++ [some (.lst ((done.filter (fewP cs w)).map lX))] ∧ ρ = [some (.lst (cs.map cOf)), some (.lst ((allS w).map sideD)), some (.lst (hbs.map fun hb => D.lst (tabB hb (2 ^ (allS w).length)))), none, some (.lst (tabB hb0 (2 ^ (allS w).length))), some (.int (i : Nat)), some (.cell (κ'.length + i)), x7, x8, x9, x10]) ⟨[], _, _, _, _, rfl, by simp, rfl⟩ ?_ ?_
      · rintro s todo ρ κ2 ⟨done, x7, x8, x9, x10, hd, rfl, rfl⟩ Z' hZ'
        have hs : s ∈ idxL cs.length i := by rw [← hd]; simp
        obtain ⟨sl, slt⟩ := idxL_lt hs
        have hdl : done.length + todo.length + 1 ≤ 15625 := by
          rw [← hd] at hib
          simp at hib
          omega
        have tl : ∀ f : Nat → Bool, (tabB f (2 ^ (allS w).length)).length = 2 ^ (allS w).length := fun f => by rw [tabB, List.length_map, List.length_range]
        simp [-Bool.exists_bool, -Int.natCast_pow, tl]
        refine ⟨by omega, ?_⟩
        rw [← List.append_assoc]
        refine comp_pure (a := fun j : Nat => D.int (0 + (j : Nat))) (b := fun m => D.bl (s.any fun i => hbs.getD i (fun _ => false) m)) (by rw [List.length_range]; omega) (fun m hm Z0 hZ0 => ?_) ?_
        · have hm := List.mem_range.mp hm
          simp [-Bool.exists_bool]
          refine comp_pure (a := natD) (b := fun i => D.bl (hbs.getD i (fun _ => false) m)) (by omega) (fun j hj Z1 hZ1 => ?_) ?_
          · have hj' := slt j hj
            simp [-Bool.exists_bool, -List.getD_eq_getElem?_getD, natD]
            refine ⟨D.lst (tabB (hbs.getD j fun _ => false) (2 ^ (allS w).length)), ?_, ?_⟩
            · rw [atI_map (by omega), getD_lt (by omega)]
            · simp [-Bool.exists_bool, -List.getD_eq_getElem?_getD]
              exact ⟨_, tab_at hm, hZ1⟩
          · have e : s.map (fun i => D.bl (hbs.getD i (fun _ => false) m)) = (s.map fun i => hbs.getD i (fun _ => false) m).map D.bl := by rw [List.map_map]; rfl
            rw [e]
            refine e_any ?_
            rw [List.any_map]
            simpa [Function.comp_def] using hZ0
        · have e : ((List.range (2 ^ (allS w).length)).map fun m => D.bl (s.any fun i => hbs.getD i (fun _ => false) m)) = ((List.range (2 ^ (allS w).length)).map fun m => s.any fun i => hbs.getD i (fun _ => false) m).map D.bl := by rw [List.map_map]; rfl
          rw [e, tabB_lF]
          refine use_eqF eqF_bl (by decide) ?_
          refine ⟨_, rfl, ?_⟩
          have fi := few_iff slt t0 hl hbs'
          split
          · rename_i q
            have q := fi.mp (of_decide_eq_true q)
            refine ⟨⟨_, own_get hl0⟩, _, own_get hl0, ?_, ?_⟩
            · have := List.length_filter_le (fewP cs w) done
              rw [List.length_map]
              omega
            · rw [own_set hl0, ← tabB_lF]
              refine hZ' _ _ ⟨done ++ [s], _, _, _, _, by simp [hd], ?_, rfl⟩
              rw [few_yes q, List.map_append]
              rfl
          · rename_i q
            have q : ¬Sub cs (pickC cs s) w := fun z => q (decide_eq_true (fi.mpr z))
            rw [← tabB_lF]
            refine hZ' _ _ ⟨done ++ [s], _, _, _, _, by simp [hd], ?_, rfl⟩
            rw [few_no q]
      · rintro ρ κ2 ⟨done, x7, x8, x9, x10, hd, rfl, rfl⟩
        rw [List.append_nil] at hd
        subst hd
        simp [-Bool.exists_bool, own_get hl0, own_set hl0]
        have ef : (idxL cs.length i).filter (fewP cs w) = fewAt cs w i := rfl
        rw [ef]
        have e2 : D.lst ((fewAt cs w i).map lX) = lF (lF natD) (fewAt cs w i) := rfl
        rw [e2, show D.lst [] = lF (lF natD) [] from rfl]
        refine use_neF eqF_nat.lst (by decide) ⟨_, rfl, ?_⟩
        split
        · rename_i q
          have q : fewAt cs w i ≠ [] := by simpa using q
          rw [← List.append_assoc, List.append_assoc]
          rw [few_first hi hj q] at h
          refine fin_app co ?_ h
          rw [lF, blw]
          exact blws_map _ (fun L => by rw [lF, blw]; exact blws_map _ (fun _ => rfl) L) _
        · rename_i q
          have q : fewAt cs w i = [] := by simpa using q
          refine hZ _ _ ⟨?_, fun j hj' => ?_, _, _, _, _, _, _, rfl⟩
          · rw [List.replicate_succ']
          · by_cases z : j = i
            · subst z
              exact q
            · exact hj j (by omega)
    · rintro ρ κ2 ⟨rfl, hj, x5, x6, x7, x8, x9, x10, rfl⟩
      exact absurd (hj cs.length (by omega)) (few_some cs w)
end PD
set_option Elab.async false
set_option linter.all false
set_option maxRecDepth 100000
set_option maxHeartbeats 4000000
/-! The own defs of law k76. -/
namespace PD
open PySem PySem.Spec PyProof.Rows L2
def nL (L : List Sd) : Nat := L.countP fun s => s.2
def nM (L : List Sd) : Nat := L.countP fun s => !s.2
theorem nLM (L : List Sd) : nL L + nM L = L.length := by
  induction L with
  | nil => rfl
  | cons s L ih =>
    rw [nL, nM, List.countP_cons, List.countP_cons, List.length_cons]
    rw [nL, nM] at ih
    cases s.2 <;> simp <;> omega
theorem room_unif {ws : List Int} {q : Int} {W : Nat} {s : Sd} (h : s.1 < W) : room ws (List.replicate W q) s = if s.2 = true then q - 1 else ws.sum - q := by
  rw [room, getD_lt (by rw [List.length_replicate]; exact h), List.getElem_replicate]
theorem sum_unif (ws : List Int) (q : Int) (W : Nat) (g : Int → Int) : ∀ L : List Sd, (∀ s ∈ L, s.1 < W) → (L.map fun s => g (room ws (List.replicate W q) s)).sum = (nL L : Int) * g (q - 1) + (nM L : Int) * g (ws.sum - q)
  | [], _ => by simp [nL, nM]
  | s :: L, h => by
    have ih := sum_unif ws q W g L fun t ht => h t (by simp [ht])
    rw [List.map_cons, List.sum_cons, ih, room_unif (h s (by simp)), nL, nM, nL, nM, List.countP_cons, List.countP_cons]
    cases s.2 <;> simp [Int.add_mul] <;> omega
abbrev cLeast (W : Nat) : Cse := ([1, 1], List.replicate W 1)
abbrev cGreat (W : Nat) : Cse := ([3, 3], List.replicate W 6)
abbrev cHalf (n : Nat) (w : Int) (W : Nat) : Cse := (List.replicate n w, List.replicate W (w * ((n : Int) + 1) / 2))
theorem hv_one {c : Cse} {L : List Sd} : HvS [c] L ↔ PackR c.1 (L.map (room c.1 c.2)) := by
  constructor
  · rintro ⟨d, hd, p⟩
    rw [List.mem_singleton.mp hd] at p
    exact p
  · exact fun p => ⟨c, List.mem_singleton_self c, p⟩
theorem sum_repI (w : Int) : ∀ n : Nat, (List.replicate n w).sum = n * w
  | 0 => by simp
  | n + 1 => by
    rw [List.replicate_succ, List.sum_cons, sum_repI w n, Int.natCast_add, Int.add_mul]
    omega
theorem unit_unif {n W : Nat} {w q : Int} {L : List Sd} (hw : 0 < w) (h : ∀ s ∈ L, s.1 < W) (h1 : 1 ≤ q) (h2 : q ≤ n * w) :
    HvS [(List.replicate n w, List.replicate W q)] L ↔ (n : Int) ≤ (nL L : Int) * ((q - 1) / w) + (nM L : Int) * ((n * w - q) / w) := by
  have e := sum_unif (List.replicate n w) q W (fun r => r / w) L h
  rw [hv_one, unit_pack hw n, List.map_map]
  · rw [sum_repI] at e
    rw [← e]
    rfl
  · intro r hr
    obtain ⟨s, hs, rfl⟩ := List.mem_map.mp hr
    show 0 ≤ room (List.replicate n w) (List.replicate W q) s
    rw [room_unif (h s hs), sum_repI]
    split <;> omega
theorem hv_least {W : Nat} {L : List Sd} (h : ∀ s ∈ L, s.1 < W) : HvS [cLeast W] L ↔ 2 ≤ nM L := by
  have := unit_unif (n := 2) (w := 1) (q := 1) (by omega) h (by omega) (by omega)
  rw [show cLeast W = (List.replicate 2 1, List.replicate W 1) from rfl, this]
  simp
  omega
theorem hv_great {W : Nat} {L : List Sd} (h : ∀ s ∈ L, s.1 < W) : HvS [cGreat W] L ↔ 2 ≤ nL L := by
  have := unit_unif (n := 2) (w := 3) (q := 6) (by omega) h (by omega) (by omega)
  rw [show cGreat W = (List.replicate 2 3, List.replicate W 6) from rfl, this]
  simp
  omega
theorem hv_half {n W : Nat} {w : Int} {L : List Sd} (hn : n = 3 ∨ n = 5 ∨ n = 7) (hw : 1 ≤ w) (h : ∀ s ∈ L, s.1 < W) : HvS [cHalf n w W] L ↔ 3 ≤ L.length := by
  have h1 : 1 ≤ w * ((n : Int) + 1) / 2 ∧ w * ((n : Int) + 1) / 2 ≤ n * w := by
    rcases hn with rfl | rfl | rfl <;> omega
  have e1 : (w * ((n : Int) + 1) / 2 - 1) / w = ((n : Int) - 1) / 2 := by
    rcases hn with rfl | rfl | rfl
    · rw [show w * (((3 : Nat) : Int) + 1) / 2 - 1 = (w - 1) + w * 1 by omega, Int.add_mul_ediv_left _ _ (by omega), Int.ediv_eq_zero_of_lt (by omega) (by omega)]
      rfl
    · rw [show w * (((5 : Nat) : Int) + 1) / 2 - 1 = (w - 1) + w * 2 by omega, Int.add_mul_ediv_left _ _ (by omega), Int.ediv_eq_zero_of_lt (by omega) (by omega)]
      rfl
    · rw [show w * (((7 : Nat) : Int) + 1) / 2 - 1 = (w - 1) + w * 3 by omega, Int.add_mul_ediv_left _ _ (by omega), Int.ediv_eq_zero_of_lt (by omega) (by omega)]
      rfl
  have e2 : ((n : Int) * w - w * ((n : Int) + 1) / 2) / w = ((n : Int) - 1) / 2 := by
    rcases hn with rfl | rfl | rfl
    · rw [show ((3 : Nat) : Int) * w - w * (((3 : Nat) : Int) + 1) / 2 = w * 1 by omega, Int.mul_ediv_cancel_left _ (by omega)]
      rfl
    · rw [show ((5 : Nat) : Int) * w - w * (((5 : Nat) : Int) + 1) / 2 = w * 2 by omega, Int.mul_ediv_cancel_left _ (by omega)]
      rfl
    · rw [show ((7 : Nat) : Int) * w - w * (((7 : Nat) : Int) + 1) / 2 = w * 3 by omega, Int.mul_ediv_cancel_left _ (by omega)]
      rfl
  have hl := nLM L
  rw [unit_unif (by omega) h h1.1 h1.2, e1, e2]
  rcases hn with rfl | rfl | rfl
  · rw [show (((3 : Nat) : Int) - 1) / 2 = 1 from rfl]; omega
  · rw [show (((5 : Nat) : Int) - 1) / 2 = 2 from rfl]; omega
  · rw [show (((7 : Nat) : Int) - 1) / 2 = 3 from rfl]; omega
theorem hv_unif {ws : List Int} {q : Int} {W : Nat} {L : List Sd} (g : GoodC ws (List.replicate W q)) (h : ∀ s ∈ L, s.1 < W) (hv : HvS [(ws, List.replicate W q)] L) : 2 ≤ nL L ∨ 2 ≤ nM L := by
  obtain ⟨fs, p⟩ := hv_one.mp hv
  have h1 := packs_sum p
  have e := sum_unif ws q W (fun r => r) L h
  have e2 : (L.map fun s => room ws (List.replicate W q) s).sum = (nL L : Int) * (q - 1) + (nM L : Int) * (ws.sum - q) := e
  have h1' : ws.sum ≤ (L.map fun s => room ws (List.replicate W q) s).sum := h1
  rw [e2] at h1'
  have hW := g.q1
  rw [List.length_replicate] at hW
  have hq := g.q q (List.mem_replicate.mpr ⟨by omega, rfl⟩)
  refine Classical.byContradiction fun z => ?_
  have a1 : (nL L : Int) * (q - 1) ≤ 1 * (q - 1) := Int.mul_le_mul_of_nonneg_right (by omega) (by omega)
  have a2 : (nM L : Int) * (ws.sum - q) ≤ 1 * (ws.sum - q) := Int.mul_le_mul_of_nonneg_right (by omega) (by omega)
  omega
theorem allS_lt {w : Nat} {L : List Sd} (s : L.Sublist (allS w)) : ∀ x ∈ L, x.1 < w := fun x hx => mem_allS.mp (s.subset hx)
theorem nL_all (w : Nat) : nL (allS w) = w ∧ nM (allS w) = w := by
  induction w with
  | zero => exact ⟨rfl, rfl⟩
  | succ w ih =>
    have e : allS (w + 1) = allS w ++ [(w, true), (w, false)] := by rw [allS, List.range_succ, List.flatMap_append]; simp [allS]
    rw [e, nL, nM, List.countP_append, List.countP_append]
    rw [nL, nM] at ih
    rw [ih.1, ih.2]
    simp
theorem nL_le {w : Nat} {L : List Sd} (s : L.Sublist (allS w)) : nL L ≤ w ∧ nM L ≤ w := by
  have h := nL_all w
  exact ⟨by rw [← h.1]; exact s.countP_le, by rw [← h.2]; exact s.countP_le⟩
theorem sub_ends {ws : List Int} {q : Int} {W : Nat} (g : GoodC ws (List.replicate W q)) : Sub [(ws, List.replicate W q)] [cGreat W, cLeast W] W := fun L hL hv => by
  have hlt := allS_lt hL
  rcases hv_unif g hlt hv with h | h
  · obtain ⟨c, hc, p⟩ := (hv_great hlt).mpr h
    exact ⟨c, by rw [List.mem_singleton.mp hc]; simp, p⟩
  · obtain ⟨c, hc, p⟩ := (hv_least hlt).mpr h
    exact ⟨c, by rw [List.mem_singleton.mp hc]; simp, p⟩
theorem sub_refl (cs : List Cse) (w : Nat) : Sub cs cs w := fun _ _ h => h
theorem sub_mem {cs os : List Cse} {w : Nat} (h : ∀ c ∈ cs, c ∈ os) : Sub cs os w := fun _ _ ⟨c, hc, p⟩ => ⟨c, h c hc, p⟩
def cnt (b : Bool) (L : List Sd) : Nat := L.countP fun s => s.2 == b
theorem cnt_t (L : List Sd) : cnt true L = nL L := by rw [cnt, nL]; congr 1; funext s; cases s.2 <;> rfl
theorem cnt_f (L : List Sd) : cnt false L = nM L := by rw [cnt, nM]; congr 1; funext s; cases s.2 <;> rfl
def pair01 (b : Bool) : List Sd := [(0, b), (1, b)]
theorem pair_sub {b : Bool} {w : Nat} (h : 2 ≤ w) : (pair01 b).Sublist (allS w) := by
  have h2 : (pair01 b).Sublist (allS 2) := by cases b <;> decide
  have h3 : ∀ k, (allS 2).Sublist (allS (k + 2)) := by
    intro k
    induction k with
    | zero => exact .refl _
    | succ k ih =>
      have e : allS (k + 1 + 2) = allS (k + 2) ++ [(k + 2, true), (k + 2, false)] := by rw [allS, show k + 1 + 2 = k + 2 + 1 by omega, List.range_succ, List.flatMap_append]; simp [allS]
      rw [e]
      exact ih.trans (List.sublist_append_left _ _)
  have := h3 (w - 2)
  rw [show w - 2 + 2 = w by omega] at this
  exact h2.trans this
theorem pair_key {b : Bool} {i j : Nat} (h : PySem.W.dataLt (keyP (pair01 b)) (keyP [(i, b), (j, b)]) = false) (hij : i < j) : i = 0 ∧ j = 1 := by
  have e1 : ∀ L : List Sd, L.length = 2 → keyP L = .tuple [.int 2, .list (L.map fun s => pyOf (sideD s))] := fun L hl => by
    rw [keyP, hl, lF, pyOf, pysOf_eq, List.map_map]
    rfl
  have al : ∀ s t : Sd, PySem.W.alike (pyOf (sideD s)) (pyOf (sideD t)) = true := fun s t => sortF_side.al s t
  have ne : ∀ s t : Sd, s ≠ t → PyData.eqv (pyOf (sideD s)) (pyOf (sideD t)) = false := fun s t h => by
    have := eqF_side.eq s t
    rw [eqD] at this
    rw [this]
    exact decide_eq_false h
  have eq : ∀ s : Sd, PyData.eqv (pyOf (sideD s)) (pyOf (sideD s)) = true := fun s => by
    have := eqF_side.eq s s
    rw [eqD] at this
    rw [this]
    exact decide_eq_true rfl
  have hl : PySem.W.dataLt (.list ((pair01 b).map fun s => pyOf (sideD s))) (.list ([(i, b), (j, b)].map fun s => pyOf (sideD s))) = true → False := fun z => by
    rw [e1 _ rfl, e1 _ rfl, PySem.W.dataLt_tuple, PySem.W.dataLt_all_yes (by simp [PySem.W.alike]) (by simp [PyData.eqv])] at h
    by_cases q : PyData.eqv (.list ((pair01 b).map fun s => pyOf (sideD s))) (.list ([(i, b), (j, b)].map fun s => pyOf (sideD s))) = true
    · have : PySem.W.dataLt (.list ((pair01 b).map fun s => pyOf (sideD s))) (.list ([(i, b), (j, b)].map fun s => pyOf (sideD s))) = false := by
        rw [show PyData.list ((pair01 b).map fun s => pyOf (sideD s)) = pyOf (lF sideD (pair01 b)) by rw [lF, pyOf, pysOf_eq, List.map_map]; rfl, show PyData.list ([(i, b), (j, b)].map fun s => pyOf (sideD s)) = pyOf (lF sideD [(i, b), (j, b)]) by rw [lF, pyOf, pysOf_eq, List.map_map]; rfl] at q ⊢
        have e := eqF_side.lst.eq (pair01 b) [(i, b), (j, b)]
        rw [eqD, q] at e
        rw [of_decide_eq_true e.symm]
        exact PyProof.Rows.lex_irrefl _
      rw [this] at z
      cases z
    · rw [PySem.W.dataLt_all_no (sortF_side.lst.al (pair01 b) [(i, b), (j, b)] |> fun a => by
        rw [show PyData.list ((pair01 b).map fun s => pyOf (sideD s)) = pyOf (lF sideD (pair01 b)) by rw [lF, pyOf, pysOf_eq, List.map_map]; rfl, show PyData.list ([(i, b), (j, b)].map fun s => pyOf (sideD s)) = pyOf (lF sideD [(i, b), (j, b)]) by rw [lF, pyOf, pysOf_eq, List.map_map]; rfl]
        exact a) (by simpa using q)] at h
      rw [h] at z
      cases z
  simp only [pair01, List.map_cons, List.map_nil] at hl
  have i0 : i = 0 := Classical.byContradiction fun z => hl (by
    rw [PySem.W.dataLt_list, PySem.W.dataLt_all_no (al _ _) (ne _ _ (by simp; omega)), side_lt]
    simp
    omega)
  subst i0
  refine ⟨rfl, Classical.byContradiction fun z => hl ?_⟩
  rw [PySem.W.dataLt_list, PySem.W.dataLt_all_yes (al _ _) (eq _), PySem.W.dataLt_all_no (al _ _) (ne _ _ (by simp; omega)), side_lt]
  simp
  omega
theorem cnt_le (b : Bool) (L : List Sd) : cnt b L ≤ L.length := List.countP_le_length
theorem first_pair {cs os : List Cse} {w : Nat} {b : Bool} (hw : 2 ≤ w) (h1 : ∀ L, L.Sublist (allS w) → (HvS cs L ↔ 2 ≤ cnt b L)) (h2 : ∀ L, L.Sublist (allS w) → (HvS os L ↔ 2 ≤ cnt (!b) L)) {L : List Sd} (g : Gain cs os w L) : L = pair01 b := by
  obtain ⟨heavy, hf, hL, hno, hmin⟩ := g
  have hp := pair_sub (b := b) hw
  have hL' := (hf.mem L).mp hL
  have c0 : cnt b (pair01 b) = 2 := by cases b <;> rfl
  have c1 : cnt (!b) (pair01 b) = 0 := by cases b <;> rfl
  have hM : pair01 b ∈ heavy := (hf.mem _).mpr ⟨hp, (h1 _ hp).mpr (by omega), fun L2 s2 hv2 hs => by
    have h3 := (h1 _ s2).mp hv2
    have h4 := cnt_le b L2
    have h5 := sub_sub s2 hp (allS_nd w) hs
    rw [h5.eq_of_length_le (by show 2 ≤ _; omega)]
    exact fun x hx => hx⟩
  have hk := hmin _ hM (fun z => by have := (h2 _ hp).mp z; omega)
  have hc := (h1 _ hL'.1).mp hL'.2.1
  have all : ∀ x ∈ L, x.2 = b := fun x hx => by
    have hs : (L.filter fun s => s.2 == b).Sublist (allS w) := List.filter_sublist.trans hL'.1
    have hv := (h1 _ hs).mpr (by rw [cnt, List.countP_filter]; simpa [cnt] using hc)
    have := hL'.2.2 _ hs hv (fun y hy => (List.mem_filter.mp hy).1) x hx
    simpa using (List.mem_filter.mp this).2
  have l2 : L.length = 2 := by
    have hl : 2 ≤ L.length := Nat.le_trans hc (cnt_le b L)
    have hs : (L.take 2).Sublist (allS w) := (List.take_sublist _ _).trans hL'.1
    have hv := (h1 _ hs).mpr (by
      have e : cnt b (L.take 2) = (L.take 2).length := by
        rw [cnt, List.countP_eq_length]
        intro x hx
        simpa using all x (List.mem_of_mem_take hx)
      rw [e, List.length_take]
      omega)
    have h3 := hL'.2.2 _ hs hv (fun y hy => List.mem_of_mem_take hy)
    have h4 := (sub_sub hL'.1 hs (allS_nd w) h3).length_le
    rw [List.length_take] at h4
    omega
  match L, l2 with
  | [s, t], _ =>
    have hb := (allS_bef w).sublist hL'.1
    have hst : Bef s t := by
      have := (List.pairwise_cons.mp hb).1 t (by simp)
      exact this
    obtain ⟨i, b1⟩ := s
    obtain ⟨j, b2⟩ := t
    obtain rfl : b1 = b := all (i, b1) (by simp)
    obtain rfl : b2 = b1 := all (j, b2) (by simp)
    have hij : i < j := by
      rcases hst with h | ⟨h, h3, h4⟩
      · exact h
      · simp only at h3 h4
        rw [h3] at h4
        cases h4
    obtain ⟨rfl, rfl⟩ := pair_key hk hij
    rfl
end PD
set_option Elab.async false
set_option linter.all false
set_option maxRecDepth 100000
set_option maxHeartbeats 4000000
/-! Law k76. -/
namespace PD
open PySem PySem.Spec PyProof.Rows L2
def c_law_ends_right : Con := fun ds κ R => ∃ (ws : List Int) (q : Int) (W : Nat), ds = [cOf (ws, List.replicate W q), .int (W : Nat)] ∧ 1 ≤ W ∧ W ≤ 4 ∧ GoodC ws (List.replicate W q) ∧ R (.bl true) κ
def c_law_half : Con := fun ds κ R => ∃ (n : Nat) (w : Int) (W : Nat), ds = [.int (n : Nat), .int w, .int (W : Nat)] ∧ (n = 3 ∨ n = 5 ∨ n = 7) ∧ 1 ≤ w ∧ w ≤ 9 ∧ 1 ≤ W ∧ W ≤ 4 ∧ R (cOf (cHalf n w W)) κ
abbrev c_law : Con := c_lawT
abbrev N_law_ends_right : List Str := ["council", "width", "least", "greatest"]
abbrev P_law_ends_right : List Str := ["council", "width"]
@[reducible] def t_law_ends_right : AS :=
  (aSeq (aPar 2 3 (aCons (aFrz (aMake "Council" c_Council_init (aCons (aData (aLst (aCons (aC (.int 1)) (aCons (aC (.int 1)) aNil)))) (aCons (aOp dMul (aData (aLst (aCons (aC (.int 1)) aNil))) (aVar 1)) aNil)))) (aCons (aFrz (aMake "Council" c_Council_init (aCons (aData (aLst (aCons (aC (.int 3)) (aCons (aC (.int 3)) aNil)))) (aCons (aOp dMul (aData (aLst (aCons (aC (.int 6)) aNil))) (aVar 1)) aNil)))) aNil)))
  (aSeq (aIfS (aOrT (aTest (aOp dNe (aOp dIx (aCB c_compare (aCons (aVar 0) (aCons (aData (aLst (aCons (aVar 3) (aCons (aVar 2) aNil)))) aNil))) (aC (.int 0))) (aC (.str (Str.ofString "nothing"))))) (aTest (aOp dNe (aOp dIx (aCB c_compare (aCons (aVar 3) (aCons (aData (aLst (aCons (aVar 3) aNil))) aNil))) (aC (.int 0))) (aC (.str (Str.ofString "nothing")))))) (aRet (aC (.bl false))) aNext)
  (aSeq (aIfS (aTest (aOp dEq (aVar 1) (aC (.int 1)))) (aRet (aAndV (aOp dEq (aCB c_compare (aCons (aVar 2) (aCons (aData (aLst aNil)) aNil))) (aTup (aCons (aC (.str (Str.ofString "nothing"))) (aCons (aData (aLst aNil)) aNil)))) (aOp dIsN (aCB c_same_power (aCons (aData (aLst (aCons (aVar 2) aNil))) (aCons (aData (aLst (aCons (aVar 3) (aCons (aVar 0) aNil)))) aNil))) (aC .non)))) aNext)
  (aSeq (aIfS (aTest (aOp dNe (aCB c_compare (aCons (aVar 2) (aCons (aData (aLst (aCons (aVar 3) aNil))) aNil))) (aTup (aCons (aC (.str (Str.ofString "more"))) (aCons (aData (aLst (aCons (aTup (aCons (aC (.int 0)) (aCons (aC (.str (Str.ofString "most"))) aNil))) (aCons (aTup (aCons (aC (.int 1)) (aCons (aC (.str (Str.ofString "most"))) aNil))) aNil)))) aNil))))) (aRet (aC (.bl false))) aNext)
  (aRet (aOp dEq (aCB c_compare (aCons (aVar 3) (aCons (aData (aLst (aCons (aVar 2) aNil))) aNil))) (aTup (aCons (aC (.str (Str.ofString "more"))) (aCons (aData (aLst (aCons (aTup (aCons (aC (.int 0)) (aCons (aC (.str (Str.ofString "least"))) aNil))) (aCons (aTup (aCons (aC (.int 1)) (aCons (aC (.str (Str.ofString "least"))) aNil))) aNil)))) aNil)))))))))
abbrev N_law_half : List Str := ["many", "weight", "width"]
abbrev P_law_half : List Str := ["many", "weight", "width"]
@[reducible] def t_law_half : AS :=
  (aRet (aFrz (aMake "Council" c_Council_init (aCons (aOp dMul (aData (aLst (aCons (aVar 1) aNil))) (aVar 0)) (aCons (aOp dMul (aData (aLst (aCons (aOp dDiv (aOp dMul (aVar 1) (aOp dAdd (aVar 0) (aC (.int 1)))) (aC (.int 2))) aNil))) (aVar 2)) aNil)))))
abbrev N_law : List Str := ["script", "bag", "k", "width", "weights", "council", "some", "one", "both"]
abbrev P_law : List Str := ["script"]
@[reducible] def t_law : AS :=
  (aSeq (aAsg (aCB c_law_bag (aCons (aVar 0) aNil)) (aName 1))
  (aSeq (aFor (aRng1 (aCons (aC (.int 2)) aNil)) (aName 2)
  (aSeq (aAsg (aOp dAdd (aC (.int 1)) (aCB c_law_take (aCons (aVar 1) (aCons (aC (.int 4)) aNil)))) (aName 3))
  (aSeq (aAsg (aOp dIx (aCB c_law_council (aCons (aVar 1) (aCons (aC (.int 1)) (aCons (aC (.int 7)) aNil)))) (aC (.int 0))) (aName 4))
  (aSeq (aAsg (aFrz (aMake "Council" c_Council_init (aCons (aVar 4) (aCons (aOp dMul (aData (aLst (aCons (aOp dAdd (aC (.int 1)) (aCB c_law_take (aCons (aVar 1) (aCons (aCB dSum (aCons (aVar 4) aNil)) aNil)))) aNil))) (aVar 3)) aNil)))) (aName 5))
  (aSeq (aIfS (aNotT (aTest (aCB c_law_ends_right (aCons (aVar 5) (aCons (aVar 3) aNil))))) (aRet (aC (.bl false))) aNext)
  (aSeq (aAsg (aData (aComp (aRng1 (aCons (aC (.int 3)) aNil)) (aName 7) aYes (aCB c_law_half (aCons (aOp dIx (aData (aLst (aCons (aC (.int 3)) (aCons (aC (.int 5)) (aCons (aC (.int 7)) aNil))))) (aCB c_law_take (aCons (aVar 1) (aCons (aC (.int 3)) aNil)))) (aCons (aOp dAdd (aC (.int 1)) (aCB c_law_take (aCons (aVar 1) (aCons (aC (.int 9)) aNil)))) (aCons (aVar 3) aNil)))) [7])) (aName 6))
  (aSeq (aIfS (aOrT (aTest (aOp dNotN (aCB c_same_power (aCons (aSl (aVar 6) aNoPart (aPart (aC (.int 1)))) (aCons (aSl (aVar 6) (aPart (aC (.int 1))) aNoPart) aNil))) (aC .non))) (aTest (aOp dNe (aOp dIx (aCB c_compare (aCons (aOp dIx (aVar 6) (aC (.int 0))) (aCons (aSl (aVar 6) (aPart (aC (.int 2))) aNoPart) aNil))) (aC (.int 0))) (aC (.str (Str.ofString "nothing")))))) (aRet (aC (.bl false))) aNext)
  (aSeq (aIfS (aOrT (aAndT (aTest (aOp dGt (aVar 3) (aC (.int 1)))) (aTest (aOp dNe (aCB c_fewest (aCons (aVar 6) aNil)) (aData (aLst (aCons (aData (aLst (aCons (aC (.int 0)) aNil))) (aCons (aData (aLst (aCons (aC (.int 1)) aNil))) (aCons (aData (aLst (aCons (aC (.int 2)) aNil))) aNil)))))))) (aAndT (aTest (aOp dEq (aVar 3) (aC (.int 1)))) (aTest (aOp dNe (aCB c_fewest (aCons (aVar 6) aNil)) (aData (aLst (aCons (aData (aLst aNil)) aNil))))))) (aRet (aC (.bl false))) aNext)
  (aSeq (aAsg (aData (aLst (aCons (aVar 5) (aCons (aMeth "Council" "mirrored" c_Council_mirrored (aVar 5) aNil) aNil)))) (aName 8))
  (aIfS (aTest (aOp dNe (aOp dIsN (aCB c_same_power (aCons (aVar 8) (aCons (aSl (aVar 8) aNoPart (aPart (aC (.int 1)))) aNil))) (aC .non)) (aAndV (aOp dLt (aCB dLen (aCons (aOp dIx (aCB c_fewest (aCons (aVar 8) aNil)) (aC (.int 0))) aNil)) (aC (.int 2))) (aOp dNe (aData (aLst (aCons (aC (.int 1)) aNil))) (aOp dIx (aCB c_fewest (aCons (aVar 8) aNil)) (aC (.int 0))))))) (aRet (aC (.bl false))) aNext))))))))))
  (aRet (aC (.bl true)))))
theorem l_law_ends_right : ∀ ds κ R, c_law_ends_right ds κ R → ds.length = P_law_ends_right.length := by
  rintro ds κ R ⟨_, _, _, rfl, _⟩
  rfl
theorem l_law_half : ∀ ds κ R, c_law_half ds κ R → ds.length = P_law_half.length := by
  rintro ds κ R ⟨_, _, _, rfl, _⟩
  rfl
theorem l_law : ∀ ds κ R, c_law ds κ R → ds.length = P_law.length := by
  rintro ds κ R ⟨_, _, rfl, _⟩
  rfl
theorem good_rep {ws : List Int} {q : Int} {W : Nat} (h2 : 2 ≤ ws.length) (h7 : ws.length ≤ 7) (hw : ∀ w ∈ ws, 1 ≤ w ∧ w ≤ 1000000) (hW : 1 ≤ W) (hW' : W ≤ 6) (h1 : 1 ≤ q) (hq : q ≤ ws.sum) : GoodC ws (List.replicate W q) :=
  ⟨h2, h7, hw, by rw [List.length_replicate]; exact hW, by rw [List.length_replicate]; exact hW', fun x hx => by rw [(List.mem_replicate.mp hx).2]; exact ⟨h1, hq⟩⟩
theorem good_least {W : Nat} (hW : 1 ≤ W) (hW' : W ≤ 6) : GoodC (cLeast W).1 (cLeast W).2 := good_rep (by simp) (by simp) (by simp) hW hW' (by simp) (by simp)
theorem good_great {W : Nat} (hW : 1 ≤ W) (hW' : W ≤ 6) : GoodC (cGreat W).1 (cGreat W).2 := good_rep (by simp) (by simp) (by simp) hW hW' (by simp) (by simp)
theorem good_half {n W : Nat} {w : Int} (hn : n = 3 ∨ n = 5 ∨ n = 7) (h1 : 1 ≤ w) (h9 : w ≤ 9) (hW : 1 ≤ W) (hW' : W ≤ 6) : GoodC (cHalf n w W).1 (cHalf n w W).2 := by
  refine good_rep (by rw [List.length_replicate]; omega) (by rw [List.length_replicate]; omega) (fun x hx => ?_) hW hW' ?_ ?_
  · rw [(List.mem_replicate.mp hx).2]
    omega
  · rcases hn with rfl | rfl | rfl <;> omega
  · rw [sum_repI]
    rcases hn with rfl | rfl | rfl <;> omega
def AllC (cs : List Cse) (W : Nat) : Prop := ∀ c ∈ cs, GoodC c.1 c.2 ∧ c.2.length = W
theorem AllC.ok {cs : List Cse} {W : Nat} (h : AllC cs W) : SdOk cs (allS W) := fun c hc => ⟨(h c hc).1, fun s hs => by rw [(h c hc).2]; exact mem_allS.mp hs⟩
section
variable {κ : Cs} {R : D → Cs → Prop} {c : Cse} {os cs : List Cse} {W : Nat}
theorem use_cmp_no (g : AllC [c] W) (g2 : AllC os W) (hn : os.length ≤ 1000) (hs : Sub [c] os W) (h : ∀ heavy ix, HeavyS sideD (HvS [c]) (allS W) heavy → ix.length = heavy.length → R (.tup [.str (Str.ofString "nothing"), tabD heavy ix]) κ) : c_compare [cOf c, .lst (os.map cOf)] κ R := by
  obtain ⟨gc, rfl⟩ := g c (by simp)
  exact ⟨c, os, rfl, g.ok, g2.ok, hn, fun L ⟨heavy, hf, hL, hno, _⟩ => absurd (hs L ((hf.mem L).mp hL).1 ((hf.mem L).mp hL).2.1) hno, fun _ heavy ix hf hl _ => h heavy ix hf hl⟩
theorem use_cmp_pair {b : Bool} (g : AllC [c] W) (g2 : AllC os W) (hn : os.length ≤ 1000) (hw : 2 ≤ W) (h1 : ∀ L, L.Sublist (allS W) → (HvS [c] L ↔ 2 ≤ cnt b L)) (h2 : ∀ L, L.Sublist (allS W) → (HvS os L ↔ 2 ≤ cnt (!b) L))
    (h : R (.tup [.str (Str.ofString "more"), lF sideD (pair01 b)]) κ) : c_compare [cOf c, .lst (os.map cOf)] κ R := by
  obtain ⟨gc, rfl⟩ := g c (by simp)
  refine ⟨c, os, rfl, g.ok, g2.ok, hn, fun L hL => ?_, fun hs => ?_⟩
  · rw [first_pair hw h1 h2 hL]
    exact h
  · have hp := pair_sub (b := b) hw
    have := (h2 _ hp).mp (hs _ hp ((h1 _ hp).mpr (by cases b <;> decide)))
    cases b <;> exact absurd this (by decide)
theorem use_same_yes (g : AllC cs W) (g2 : AllC os W) (hW : W ≤ 6) (hn : cs.length ≤ 1000) (hn2 : os.length ≤ 1000) (hne : cs ≠ []) (h1 : Sub cs os W) (h2 : Sub os cs W) (h : R .non κ) : c_same_power [.lst (cs.map cOf), .lst (os.map cOf)] κ R :=
  ⟨cs, os, W, rfl, hW, g.ok, g2.ok, hn, hn2, hne, fun c hc => (List.mem_append.mp hc).elim (fun h => (g c h).2) fun h => (g2 c h).2, fun _ _ => h, fun _ _ z => absurd ⟨h1, h2⟩ z⟩
theorem use_same {P : Prop} (g : AllC cs W) (g2 : AllC os W) (hW : W ≤ 6) (hn : cs.length ≤ 1000) (hn2 : os.length ≤ 1000) (hne : cs ≠ []) (hP : P ↔ Sub cs os W ∧ Sub os cs W) (h : ∀ d, (isNon d = true ↔ P) → R d κ) : c_same_power [.lst (cs.map cOf), .lst (os.map cOf)] κ R :=
  ⟨cs, os, W, rfl, hW, g.ok, g2.ok, hn, hn2, hne, fun c hc => (List.mem_append.mp hc).elim (fun h => (g c h).2) fun h => (g2 c h).2, fun h1 h2 => h _ ⟨fun _ => hP.mpr ⟨h1, h2⟩, fun _ => rfl⟩, fun _ _ z => h _ ⟨fun e => (by cases e), fun p => absurd (hP.mp p) z⟩⟩
end
theorem lN_rep (n : Nat) (w : Int) : D.lst (List.replicate n (D.int w)) = lN (List.replicate n w) := by rw [lN, List.map_replicate]
theorem cO_data {ws qs : List Int} : (Ce.obj "Council" [("seat_weights", lN ws), ("column_quotas", lN qs)]).data = cOf (ws, qs) := rfl
/-- a council is made -/
theorem use_mk {κ : Cs} {n : Nat} {ws qs : List Int} {Q : Ce → Cs → Prop} (hn : κ.length = n) (g : GoodC ws qs) (h : Q (.obj "Council" [("seat_weights", lN ws), ("column_quotas", lN qs)]) (κ ++ [some (.obj "Council" [("seat_weights", lN ws), ("column_quotas", lN qs)])])) :
    c_Council_init [.cell n, lN ws, lN qs] (κ ++ [some (.obj "Council" [])]) fun d κ2 => d = .non ∧ ∃ c, κ2[n]? = some (some c) ∧ Q c κ2 := by
  refine ⟨n, ws, qs, rfl, own_get hn, g, rfl, .obj "Council" [("seat_weights", lN ws), ("column_quotas", lN qs)], ?_, ?_⟩
  · rw [own_set hn]
    exact own_get hn
  · rw [own_set hn]
    exact h
theorem b_law_half : Body N_law_half t_law_half c_law_half := by
  rintro ds κ R co ⟨n, w, W, rfl, hn, h1, h9, hW, hW', h⟩
  simp [-Bool.exists_bool, start, List.replicate]
  refine ⟨by omega, by omega, .inl (.inl ⟨by omega, by omega⟩), by omega, by omega, ?_⟩
  rw [lN_rep, lN_rep]
  refine use_mk rfl (good_half hn h1 h9 hW (by omega)) ?_
  rw [cO_data, own_set rfl]
  exact fin_app co (blw_cO _ _ _) h
theorem eq_closed {d e : D} {κ : Cs} {R : D → Cs → Prop} {b : Bool} (h1 : dEq d e κ R = (okD d ∧ okD e ∧ R (.bl (eqD d e)) κ)) (hd : plain d = true ∧ decide (dep d ≤ 60) = true ∧ plain e = true ∧ decide (dep e ≤ 60) = true ∧ eqD d e = b) (h : R (.bl b) κ) : dEq d e κ R := by
  rw [h1]
  exact ⟨⟨hd.1, of_decide_eq_true hd.2.1⟩, ⟨hd.2.2.1, of_decide_eq_true hd.2.2.2.1⟩, by rw [hd.2.2.2.2]; exact h⟩
theorem ne_closed {d e : D} {κ : Cs} {R : D → Cs → Prop} {b : Bool} (h1 : dNe d e κ R = (okD d ∧ okD e ∧ R (.bl (!eqD d e)) κ)) (hd : plain d = true ∧ decide (dep d ≤ 60) = true ∧ plain e = true ∧ decide (dep e ≤ 60) = true ∧ eqD d e = b) (h : R (.bl (!b)) κ) : dNe d e κ R := by
  rw [h1]
  exact ⟨⟨hd.1, of_decide_eq_true hd.2.1⟩, ⟨hd.2.2.1, of_decide_eq_true hd.2.2.2.1⟩, by rw [hd.2.2.2.2]; exact h⟩
theorem one_rep (w : Int) : D.lst [D.int w, D.int w] = lN [w, w] := rfl
theorem b_law_ends_right : Body N_law_ends_right t_law_ends_right c_law_ends_right := by
  rintro ds κ R co ⟨ws, q, W, rfl, hW, hW', g, h⟩
  have gl := good_least hW (show W ≤ 6 by omega)
  have gg := good_great hW (show W ≤ 6 by omega)
  have aL : AllC [cLeast W] W := fun c hc => by rw [List.mem_singleton.mp hc]; exact ⟨gl, List.length_replicate⟩
  have aG : AllC [cGreat W] W := fun c hc => by rw [List.mem_singleton.mp hc]; exact ⟨gg, List.length_replicate⟩
  have aU : AllC [(ws, List.replicate W q)] W := fun c hc => by rw [List.mem_singleton.mp hc]; exact ⟨g, List.length_replicate⟩
  have aGL : AllC [cGreat W, cLeast W] W := fun c hc => by
    rcases List.mem_cons.mp hc with h | h
    · exact aG c (by rw [h]; simp)
    · exact aL c h
  have fin : ∀ l : Cs, Fin κ R (.bl true) (κ ++ l) := fun l => fin_app co rfl h
  simp [-Bool.exists_bool, start, List.replicate]
  refine ⟨by omega, by omega, ?_⟩
  rw [one_rep, lN_rep]
  refine use_mk rfl gl ?_
  rw [cO_data, own_set rfl]
  refine ⟨by omega, by omega, ?_⟩
  rw [one_rep, lN_rep]
  refine use_mk (by simp) gg ?_
  rw [cO_data, own_set (by simp)]
  refine use_cmp_no (os := [cGreat W, cLeast W]) aU aGL (by simp) (sub_ends g) fun heavy ix _ _ => ?_
  simp [-Bool.exists_bool]
  refine use_cmp_no (os := [cGreat W]) aG aG (by simp) (sub_refl _ _) fun heavy ix _ _ => ?_
  simp [-Bool.exists_bool]
  have h1L : ∀ L, L.Sublist (allS W) → (HvS [cLeast W] L ↔ 2 ≤ cnt false L) := fun L s => by rw [hv_least (allS_lt s), cnt_f]
  have h1G : ∀ L, L.Sublist (allS W) → (HvS [cGreat W] L ↔ 2 ≤ cnt true L) := fun L s => by rw [hv_great (allS_lt s), cnt_t]
  split
  · rename_i hW1
    have hW1 : W = 1 := by omega
    subst hW1
    have no : ∀ L, L.Sublist (allS 1) → nL L < 2 ∧ nM L < 2 := fun L s => by have := nL_le s; omega
    have s1 : ∀ os, Sub [cLeast 1] os 1 := fun os L s hv => by have := (hv_least (allS_lt s)).mp hv; have := no L s; omega
    have s2 : Sub [cGreat 1, (ws, List.replicate 1 q)] [cLeast 1] 1 := fun L s hv => by
      obtain ⟨c, hc, p⟩ := hv
      have := no L s
      rcases List.mem_cons.mp hc with rfl | hc
      · have := (hv_great (allS_lt s)).mp ⟨_, List.mem_singleton_self _, p⟩
        omega
      · rw [List.mem_singleton.mp hc] at p
        have := hv_unif g (allS_lt s) ⟨_, List.mem_singleton_self _, p⟩
        omega
    refine use_cmp_no (os := []) aL (fun c hc => nomatch hc) (by simp) (s1 _) fun heavy ix hf hl => ?_
    have he : heavy = [] := by
      cases heavy with
      | nil => rfl
      | cons L heavy =>
        have hL := (hf.mem L).mp (by simp)
        have := (hv_least (allS_lt hL.1)).mp hL.2.1
        have := no L hL.1
        omega
    subst he
    obtain rfl : ix = [] := List.eq_nil_of_length_eq_zero hl
    have eq : ∀ (κ : Cs) (R : D → Cs → Prop), R (.bl true) κ → dEq (.tup [.str (Str.ofString "nothing"), tabD [] []]) (.tup [.str (Str.ofString "nothing"), .lst []]) κ R := fun κ R h => eq_closed (b := true) rfl (by decide +kernel) h
    refine eq _ _ ⟨true, rfl, ?_⟩
    rw [if_pos rfl]
    refine use_same_yes (cs := [cLeast 1]) (os := [cGreat 1, (ws, List.replicate 1 q)]) aL (fun c hc => ?_) (by omega) (by simp) (by simp) (by simp) (s1 _) s2 ?_
    · rcases List.mem_cons.mp hc with h | h
      · exact aG c (by rw [h]; simp)
      · exact aU c h
    · simp
      exact fin _
  · rename_i hW1
    refine use_cmp_pair (os := [cGreat W]) (b := false) aL aG (by simp) (by omega) h1L h1G ?_
    refine ne_closed (b := true) rfl (by decide +kernel) ⟨_, rfl, ?_⟩
    rw [if_neg (by decide)]
    refine use_cmp_pair (os := [cLeast W]) (b := true) aG aL (by simp) (by omega) h1G h1L ?_
    refine eq_closed (b := true) rfl (by decide +kernel) ?_
    exact fin _
theorem lkM {ws qs : List Int} : ∀ (a : Str) (b : D), (a, b) ∈ ([("seat_weights", lN ws), ("column_quotas", lN qs)] : List (Str × D)) → ¬Str.ofString "mirrored" = a := by
  intro a b h
  simp only [List.mem_cons, Prod.mk.injEq, List.not_mem_nil, or_false] at h
  rcases h with ⟨rfl, _⟩ | ⟨rfl, _⟩ <;> decide +kernel
theorem sub_half {cs os : List Cse} {W : Nat} (h1 : ∀ c ∈ cs, ∀ L, L.Sublist (allS W) → (HvS [c] L ↔ 3 ≤ L.length)) (h2 : ∀ c ∈ os, ∀ L, L.Sublist (allS W) → (HvS [c] L ↔ 3 ≤ L.length)) (hne : os ≠ []) : Sub cs os W := fun L s ⟨c, hc, p⟩ => by
  have := (h1 c hc L s).mp ⟨c, List.mem_singleton_self _, p⟩
  obtain ⟨o, os, rfl⟩ := List.exists_cons_of_ne_nil hne
  obtain ⟨d, hd, q⟩ := (h2 o (by simp) L s).mpr this
  rw [List.mem_singleton.mp hd] at q
  exact ⟨o, by simp, q⟩
theorem sum_bnd : ∀ {ws : List Int}, (∀ w ∈ ws, 1 ≤ w ∧ w ≤ 1000000) → (ws.length : Int) ≤ ws.sum ∧ ws.sum ≤ ws.length * 1000000
  | [], _ => by simp
  | w :: ws, h => by
    have h1 := sum_bnd (ws := ws) fun x hx => h x (by simp [hx])
    have h2 := h w (by simp)
    rw [List.sum_cons, List.length_cons]
    omega
theorem few_two (a b : Cse) (w : Nat) : ∃ f0 rest, fewL [a, b] w = f0 :: rest ∧ (f0.length < 2 ∧ f0 ≠ [1] ↔ Sub [a, b] [a] w) := by
  have i0 : idxL 2 0 = [[]] := rfl
  have i1 : idxL 2 1 = [[0], [1]] := by decide
  have i2 : idxL 2 2 = [[0, 1]] := by decide
  have p1 : pickC [a, b] [0] = [a] := rfl
  have p2 : pickC [a, b] [1] = [b] := rfl
  have p3 : pickC [a, b] [0, 1] = [a, b] := rfl
  have f0 : fewAt [a, b] w 0 = [[]].filter (fewP [a, b] w) := rfl
  have f1 : fewAt [a, b] w 1 = [[0], [1]].filter (fewP [a, b] w) := by rw [fewAt, show [a, b].length = 2 from rfl, i1]
  have f2 : fewAt [a, b] w 2 = [[0, 1]].filter (fewP [a, b] w) := by rw [fewAt, show [a, b].length = 2 from rfl, i2]
  by_cases h0 : Sub [a, b] [] w
  · have e : fewAt [a, b] w 0 = [[]] := by rw [f0, List.filter_cons, if_pos (fewP_iff.mpr h0)]; rfl
    refine ⟨[], [], ?_, ?_⟩
    · rw [few_first (i := 0) (by simp) (fun j hj => by omega) (by rw [e]; simp), e]
    · refine ⟨fun _ L s hv => ?_, fun _ => by simp⟩
      obtain ⟨c, hc, _⟩ := h0 L s hv
      cases hc
  · have e0 : fewAt [a, b] w 0 = [] := by rw [f0, List.filter_cons, if_neg (fun z => h0 (fewP_iff.mp z))]; rfl
    by_cases h1 : Sub [a, b] [a] w
    · have e : fewAt [a, b] w 1 = [0] :: [[1]].filter (fewP [a, b] w) := by rw [f1, List.filter_cons, if_pos (fewP_iff.mpr (by rw [p1]; exact h1))]
      refine ⟨[0], [[1]].filter (fewP [a, b] w), ?_, by simpa using h1⟩
      rw [few_first (i := 1) (by simp) (fun j hj => by rw [show j = 0 by omega]; exact e0) (by rw [e]; simp), e]
    · by_cases h2 : Sub [a, b] [b] w
      · have e : fewAt [a, b] w 1 = [[1]] := by
          rw [f1, List.filter_cons, if_neg (fun z => h1 (by have := fewP_iff.mp z; rwa [p1] at this)), List.filter_cons, if_pos (fewP_iff.mpr (by rw [p2]; exact h2))]
          rfl
        refine ⟨[1], [], ?_, by simpa using h1⟩
        rw [few_first (i := 1) (by simp) (fun j hj => by rw [show j = 0 by omega]; exact e0) (by rw [e]; simp), e]
      · have e1 : fewAt [a, b] w 1 = [] := by
          rw [f1, List.filter_cons, if_neg (fun z => h1 (by have := fewP_iff.mp z; rwa [p1] at this)), List.filter_cons, if_neg (fun z => h2 (by have := fewP_iff.mp z; rwa [p2] at this))]
          rfl
        have e : fewAt [a, b] w 2 = [[0, 1]] := by
          rw [f2, List.filter_cons, if_pos (fewP_iff.mpr (by rw [p3]; exact sub_refl _ _))]
          rfl
        refine ⟨[0, 1], [], ?_, by simpa using h1⟩
        rw [few_first (i := 2) (by simp) (fun j hj => by rcases (by omega : j = 0 ∨ j = 1) with rfl | rfl <;> assumption) (by rw [e]; simp), e]
theorem few_half {a b c : Cse} {w : Nat} (h : ∀ d ∈ [a, b, c], ∀ L, L.Sublist (allS w) → (HvS [d] L ↔ 3 ≤ L.length)) : (2 ≤ w → fewL [a, b, c] w = [[0], [1], [2]]) ∧ (w = 1 → fewL [a, b, c] w = [[]]) := by
  have i1 : idxL 3 1 = [[0], [1], [2]] := by decide
  have f0 : fewAt [a, b, c] w 0 = [[]].filter (fewP [a, b, c] w) := rfl
  have f1 : fewAt [a, b, c] w 1 = [[0], [1], [2]].filter (fewP [a, b, c] w) := by rw [fewAt, show [a, b, c].length = 3 from rfl, i1]
  constructor
  · intro hw
    have h0 : ¬Sub [a, b, c] [] w := fun z => by
      have hv := (h a (by simp) _ (List.Sublist.refl _)).mpr (by rw [allS_len]; omega)
      obtain ⟨d, hd, _⟩ := z _ (List.Sublist.refl _) (let ⟨x, hx, p⟩ := hv; ⟨x, by rw [List.mem_singleton.mp hx]; simp, p⟩)
      cases hd
    have e0 : fewAt [a, b, c] w 0 = [] := by rw [f0, List.filter_cons, if_neg (fun z => h0 (fewP_iff.mp z))]; rfl
    have s : ∀ d ∈ [a, b, c], Sub [a, b, c] [d] w := fun d hd => sub_half h (fun x hx => by rw [List.mem_singleton.mp hx]; exact h d hd) (by simp)
    have e1 : fewAt [a, b, c] w 1 = [[0], [1], [2]] := by
      rw [f1, List.filter_cons, if_pos (fewP_iff.mpr (s a (by simp))), List.filter_cons, if_pos (fewP_iff.mpr (s b (by simp))), List.filter_cons, if_pos (fewP_iff.mpr (s c (by simp)))]
      rfl
    rw [few_first (i := 1) (by simp) (fun j hj => by rw [show j = 0 by omega]; exact e0) (by rw [e1]; simp), e1]
  · intro hw
    have h0 : Sub [a, b, c] [] w := fun L s hv => by
      obtain ⟨d, hd, p⟩ := hv
      have h1 := (h d hd L s).mp ⟨d, List.mem_singleton_self d, p⟩
      have h2 := s.length_le
      rw [allS_len] at h2
      omega
    have e : fewAt [a, b, c] w 0 = [[]] := by rw [f0, List.filter_cons, if_pos (fewP_iff.mpr h0)]; rfl
    rw [few_first (i := 0) (by simp) (fun j hj => by omega) (by rw [e]; simp), e]
theorem b_law : Body N_law t_law c_law := by
  rintro ds κ R co ⟨rfl, ns, rfl, hn, h⟩
  simp [-Bool.exists_bool, start, List.replicate]
  refine ⟨ns, rfl, hn, fun c hc => ?_⟩
  simp [-Bool.exists_bool]
  have b0 : Bg 0 [some c] [some c] := Bg.of (by rfl) hc
  have fin : ∀ κ', Fin [] R (.bl true) κ' := fun κ' => fin_app (κ := []) co rfl h
  refine loop_rng (fun _ ρ κ' => (∃ l : Cs, Bg 0 ([some c] ++ l) κ') ∧ ∃ x2 x3 x4 x5 x6 x7 x8, ρ = [some (.scr ns), some (.cell 0), x2, x3, x4, x5, x6, x7, x8]) ⟨⟨[], b0⟩, _, _, _, _, _, _, _, rfl⟩ ?_ ?_
  · rintro i _ κ1 hi ⟨⟨l, b1⟩, x2, x3, x4, x5, x6, x7, x8, rfl⟩ Z hZ
    rw [e_name, e_seq]
    simp [-Bool.exists_bool, -e_seq]
    refine use_take b1 (by omega) (by omega) fun v κ2 b2 g2 g2' => ?_
    obtain ⟨j, rfl⟩ : ∃ j : Nat, v = (j : Nat) := ⟨v.toNat, by omega⟩
    rw [e_addI, e_seq]
    simp [-Bool.exists_bool, -e_seq]
    refine ⟨0, 1, 7, by simp, b2.refl', by omega, by omega, by omega, by omega, fun ws qs κ3 b3 g h7 hw hq hqs => ?_⟩
    have gs := sum_bnd hw
    simp [-Bool.exists_bool, -e_seq]
    rw [e_seq]
    simp [-Bool.exists_bool, -e_seq]
    refine use_take b3 (by omega) (by omega) fun q κ4 b4 g4 g4' => ?_
    simp [-Bool.exists_bool, -e_seq]
    refine ⟨by omega, by omega, by omega, ?_⟩
    have eW : (1 + (j : Int)).toNat = 1 + j := by omega
    rw [eW, lN_rep]
    have gU := good_rep g (by omega) hw (show 1 ≤ 1 + j by omega) (by omega) (show 1 ≤ 1 + q by omega) (by omega)
    refine use_mk rfl gU ?_
    rw [cO_data, own_set rfl, e_seq]
    simp [-Bool.exists_bool, -e_seq]
    refine ⟨ws, 1 + q, 1 + j, rfl, by omega, by omega, gU, true, rfl, ?_⟩
    simp only [Bool.not_true, if_false, Bool.false_eq_true]
    have b04 := (b2.trans b4).app [none]
    rw [if_pos trivial, e_seq]
    simp [-Bool.exists_bool, -e_seq]
    refine comp_rng (b := fun p : Nat × Int => cOf (cHalf p.1 p.2 (1 + j))) (fun _ p => (p.1 = 3 ∨ p.1 = 5 ∨ p.1 = 7) ∧ 1 ≤ p.2 ∧ p.2 ≤ 9) (fun κ' => Bg 0 ([some c] ++ l ++ [none]) κ') b04 (by omega) (fun i κ5 hi b5 Z' hZ' => ?_) fun zs κ5 hl hzs b5 => ?_
    · simp [-Bool.exists_bool]
      refine use_take b5 (by omega) (by omega) fun v κ6 b6 g6 g6' => ?_
      simp [-Bool.exists_bool]
      have e3 : ∃ n : Nat, (n = 3 ∨ n = 5 ∨ n = 7) ∧ atI [D.int 3, D.int 5, D.int 7] v = some (.int (n : Nat)) := by
        rcases (by omega : v = 0 ∨ v = 1 ∨ v = 2) with rfl | rfl | rfl
        · exact ⟨3, by omega, by simp⟩
        · exact ⟨5, by omega, by simp⟩
        · exact ⟨7, by omega, by simp⟩
      obtain ⟨n, hn3, e3⟩ := e3
      refine ⟨_, e3, ?_⟩
      refine use_take b6 (by omega) (by omega) fun u κ7 b7 g7 g7' => ?_
      simp [-Bool.exists_bool]
      exact ⟨n, 1 + u, 1 + j, rfl, hn3, by omega, by omega, by omega, by omega, hZ' (n, 1 + u) _ ⟨hn3, by omega, by omega⟩ b7⟩
    · match zs, hl with
      | [p0, p1, p2], _ =>
        have q0 := hzs 0 p0 rfl
        have q1 := hzs 1 p1 rfl
        have q2 := hzs 2 p2 rfl
        have hv : ∀ p : Nat × Int, (p.1 = 3 ∨ p.1 = 5 ∨ p.1 = 7) ∧ 1 ≤ p.2 ∧ p.2 ≤ 9 → (GoodC (cHalf p.1 p.2 (1 + j)).1 (cHalf p.1 p.2 (1 + j)).2 ∧ (cHalf p.1 p.2 (1 + j)).2.length = 1 + j) ∧ ∀ L, L.Sublist (allS (1 + j)) → (HvS [cHalf p.1 p.2 (1 + j)] L ↔ 3 ≤ L.length) := fun p hp =>
          ⟨⟨good_half hp.1 hp.2.1 hp.2.2 (by omega) (by omega), List.length_replicate⟩, fun L s => hv_half hp.1 hp.2.1 (allS_lt s)⟩
        have fh := few_half (a := cHalf p0.1 p0.2 (1 + j)) (b := cHalf p1.1 p1.2 (1 + j)) (c := cHalf p2.1 p2.2 (1 + j)) (w := 1 + j) (fun d hd => by
          rcases List.mem_cons.mp hd with h | hd
          · rw [h]; exact (hv p0 q0).2
          · rcases List.mem_cons.mp hd with h | hd
            · rw [h]; exact (hv p1 q1).2
            · rw [List.mem_singleton.mp hd]; exact (hv p2 q2).2)
        have a0 : AllC [cHalf p0.1 p0.2 (1 + j)] (1 + j) := fun d hd => by rw [List.mem_singleton.mp hd]; exact (hv p0 q0).1
        have a2 : AllC [cHalf p2.1 p2.2 (1 + j)] (1 + j) := fun d hd => by rw [List.mem_singleton.mp hd]; exact (hv p2 q2).1
        have a12 : AllC [cHalf p1.1 p1.2 (1 + j), cHalf p2.1 p2.2 (1 + j)] (1 + j) := fun d hd => by
          rcases List.mem_cons.mp hd with h | hd
          · rw [h]; exact (hv p1 q1).1
          · exact a2 d hd
        have a012 : AllC [cHalf p0.1 p0.2 (1 + j), cHalf p1.1 p1.2 (1 + j), cHalf p2.1 p2.2 (1 + j)] (1 + j) := fun d hd => by
          rcases List.mem_cons.mp hd with h | hd
          · rw [h]; exact (hv p0 q0).1
          · exact a12 d hd
        have v0 : ∀ d ∈ [cHalf p0.1 p0.2 (1 + j)], ∀ L, L.Sublist (allS (1 + j)) → (HvS [d] L ↔ 3 ≤ L.length) := fun d hd => by rw [List.mem_singleton.mp hd]; exact (hv p0 q0).2
        have v2 : ∀ d ∈ [cHalf p2.1 p2.2 (1 + j)], ∀ L, L.Sublist (allS (1 + j)) → (HvS [d] L ↔ 3 ≤ L.length) := fun d hd => by rw [List.mem_singleton.mp hd]; exact (hv p2 q2).2
        have v12 : ∀ d ∈ [cHalf p1.1 p1.2 (1 + j), cHalf p2.1 p2.2 (1 + j)], ∀ L, L.Sublist (allS (1 + j)) → (HvS [d] L ↔ 3 ≤ L.length) := fun d hd => by
          rcases List.mem_cons.mp hd with h | hd
          · rw [h]; exact (hv p1 q1).2
          · exact v2 d hd
        rw [List.map_cons, List.map_cons, List.map_cons, List.map_nil, e_seq]
        simp [-Bool.exists_bool, -e_seq]
        refine use_same_yes (cs := [cHalf p0.1 p0.2 (1 + j)]) (os := [cHalf p1.1 p1.2 (1 + j), cHalf p2.1 p2.2 (1 + j)]) a0 a12 (by omega) (by simp) (by simp) (by simp) (sub_half v0 v12 (by simp)) (sub_half v12 v0 (by simp)) ?_
        simp [-Bool.exists_bool, -e_seq]
        refine use_cmp_no (os := [cHalf p2.1 p2.2 (1 + j)]) a0 a2 (by simp) (sub_half v0 v2 (by simp)) fun heavy ix _ _ => ?_
        simp [-Bool.exists_bool, -e_seq]
        refine seq_cut (fun ρ' κ' => ρ' = [some (D.scr ns), some (D.cell 0), some (D.int i), some (D.int (1 + j)), some (lN ws), some (cOf (ws, List.replicate (1 + j) (1 + q))), some (D.lst [cOf (cHalf p0.1 p0.2 (1 + j)), cOf (cHalf p1.1 p1.2 (1 + j)), cOf (cHalf p2.1 p2.2 (1 + j))]), x7, x8] ∧ κ' = κ5) (fun Z1 hZ1 => ?_) ?_
        · simp [-Bool.exists_bool, -e_seq]
          have few : ∀ (κ : Cs) (R : D → Cs → Prop), R (.lst ((fewL [cHalf p0.1 p0.2 (1 + j), cHalf p1.1 p1.2 (1 + j), cHalf p2.1 p2.2 (1 + j)] (1 + j)).map lX)) κ → c_fewest [D.lst [cOf (cHalf p0.1 p0.2 (1 + j)), cOf (cHalf p1.1 p1.2 (1 + j)), cOf (cHalf p2.1 p2.2 (1 + j))]] κ R := fun κ R h =>
            ⟨[cHalf p0.1 p0.2 (1 + j), cHalf p1.1 p1.2 (1 + j), cHalf p2.1 p2.2 (1 + j)], 1 + j, rfl, by omega, by simp, by simp, a012.ok, fun d hd => (a012 d hd).2, h⟩
          split
          · refine few _ _ ?_
            rw [fh.1 (by omega)]
            refine ne_closed (b := true) rfl (by decide +kernel) ⟨_, rfl, ?_⟩
            rw [if_neg (by decide), if_neg (by omega)]
            exact hZ1 _ _ ⟨rfl, rfl⟩
          · rw [if_pos (by omega)]
            refine few _ _ ?_
            rw [fh.2 (by omega)]
            refine ne_closed (b := true) rfl (by decide +kernel) ⟨_, rfl, ?_⟩
            rw [if_neg (by decide)]
            exact hZ1 _ _ ⟨rfl, rfl⟩
        · rintro ρ κ6 ⟨rfl, rfl⟩
          rw [e_seq]
          simp [-Bool.exists_bool, -e_seq]
          have aU : AllC [(ws, List.replicate (1 + j) (1 + q))] (1 + j) := fun d hd => by rw [List.mem_singleton.mp hd]; exact ⟨gU, List.length_replicate⟩
          have aB : AllC [(ws, List.replicate (1 + j) (1 + q)), (ws, mirQ ws (List.replicate (1 + j) (1 + q)))] (1 + j) := fun d hd => by
            rcases List.mem_cons.mp hd with h | hd
            · rw [h]; exact ⟨gU, List.length_replicate⟩
            · rw [List.mem_singleton.mp hd]; exact ⟨good_mir gU, by rw [mirQ, List.length_map, List.length_replicate]⟩
          refine ⟨_, rfl, lkM, ws, List.replicate (1 + j) (1 + q), rfl, gU, ?_⟩
          refine use_same (P := Sub [(ws, List.replicate (1 + j) (1 + q)), (ws, mirQ ws (List.replicate (1 + j) (1 + q)))] [(ws, List.replicate (1 + j) (1 + q))] (1 + j)) (cs := [(ws, List.replicate (1 + j) (1 + q)), (ws, mirQ ws (List.replicate (1 + j) (1 + q)))]) (os := [(ws, List.replicate (1 + j) (1 + q))]) aB aU (by omega) (by simp) (by simp) (by simp) ⟨fun h => ⟨h, sub_mem fun d hd => by rw [List.mem_singleton.mp hd]; simp⟩, fun h => h.1⟩ fun d hd => ?_
          obtain ⟨f0, rest, ef, hf⟩ := few_two (ws, List.replicate (1 + j) (1 + q)) (ws, mirQ ws (List.replicate (1 + j) (1 + q))) (1 + j)
          have few : ∀ (κ : Cs) (R : D → Cs → Prop), R (.lst ((f0 :: rest).map lX)) κ → c_fewest [D.lst [cOf (ws, List.replicate (1 + j) (1 + q)), cO ws (mirQ ws (List.replicate (1 + j) (1 + q)))]] κ R := fun κ R h =>
            ⟨[(ws, List.replicate (1 + j) (1 + q)), (ws, mirQ ws (List.replicate (1 + j) (1 + q)))], 1 + j, rfl, by omega, by simp, by simp, aB.ok, fun d hd => (aB d hd).2, by rw [ef]; exact h⟩
          refine few _ _ ?_
          simp [-Bool.exists_bool, -e_seq]
          have fz : ∀ x7 x8, Z [some (D.scr ns), some (D.cell 0), some (D.int i), some (D.int (1 + j)), some (lN ws), some (cOf (ws, List.replicate (1 + j) (1 + q))), some (D.lst [cOf (cHalf p0.1 p0.2 (1 + j)), cOf (cHalf p1.1 p1.2 (1 + j)), cOf (cHalf p2.1 p2.2 (1 + j))]), x7, x8] κ6 := fun x7 x8 =>
            hZ _ _ ⟨⟨l ++ [none], by rw [← List.append_assoc]; exact b5⟩, _, _, _, _, _, _, _, rfl⟩
          split
          · rename_i h2
            refine few _ _ ?_
            refine ⟨lX f0, by rw [List.map_cons, itAt_lst]; simp, ?_⟩
            rw [show D.lst [D.int 1] = lF natD [1] from rfl, lX_lF]
            refine use_neF eqF_nat (by decide) ?_
            rw [e_neB]
            refine ⟨_, rfl, ?_⟩
            have e : isNon d = !decide ([1] = f0) := by
              rw [Bool.eq_iff_iff, hd, ← hf]
              simp
              constructor
              · rintro ⟨_, h⟩ h'
                exact h h'.symm
              · intro h
                exact ⟨by omega, fun h' => h h'.symm⟩
            rw [e, decide_eq_true rfl, if_neg (by decide)]
            exact fz _ _
          · rename_i h2
            have e : isNon d = false := by
              cases q : isNon d with
              | false => rfl
              | true =>
                have := hf.mpr (hd.mp q)
                omega
            rw [e, if_neg (by decide)]
            exact fz _ _
  · rintro ρ κ1 ⟨b1, x2, x3, x4, x5, x6, x7, x8, rfl⟩
    simp [-Bool.exists_bool]
    exact fin _
end PD
namespace PD
open PySem PySem.Spec PyProof.Rows L2
def topS (i : Nat) : Stmt := PySem.Challenge.pw_packedseats_k76_whole_uniform_quotas.main.body.getD i (.Pass ⟨0, 0, 0, 0⟩)
abbrev s_is_integer : Stmt := topS 2
abbrev s_is_between : Stmt := topS 3
abbrev s_are_quotas : Stmt := topS 36
abbrev s_are_weights : Stmt := topS 35
abbrev s_Council_init : Stmt := inClass (topS 37) 0
abbrev s_Council_total : Stmt := inClass (topS 37) 3
abbrev s_Council_mirrored : Stmt := inClass (topS 37) 6
abbrev s_Council_width : Stmt := inClass (topS 37) 4
abbrev s_all_sides : Stmt := topS 20
abbrev s_first_least : Stmt := topS 21
abbrev s_bits_of : Stmt := topS 13
abbrev s_Council_weights : Stmt := inClass (topS 37) 1
abbrev s_Packer_init : Stmt := inClass (topS 15) 0
abbrev s_first_fit : Stmt := topS 9
abbrev s_fits : Stmt := topS 6
abbrev s_next_loads : Stmt := topS 7
abbrev s_load_levels : Stmt := topS 8
abbrev s_can_pack : Stmt := topS 10
abbrev s_members : Stmt := topS 14
abbrev s_Packer_is_heavy : Stmt := inClass (topS 15) 1
abbrev s_heavy_masks : Stmt := topS 16
abbrev s_Council_allowance : Stmt := inClass (topS 37) 5
abbrev s_rooms_of : Stmt := topS 5
abbrev s_heavy_table : Stmt := topS 17
abbrev s_heavy_sets : Stmt := topS 18
abbrev s_is_light : Stmt := topS 12
abbrev s_gains : Stmt := topS 22
abbrev s_compare : Stmt := topS 23
abbrev s_index_lists : Stmt := topS 25
abbrev s_fewest : Stmt := topS 26
abbrev s_law_bag : Stmt := topS 39
abbrev s_law_take : Stmt := topS 40
abbrev s_law_council : Stmt := topS 41
abbrev s_same_power : Stmt := topS 24
abbrev s_law_ends_right : Stmt := topS 43
abbrev s_law_half : Stmt := topS 42
abbrev s_law : Stmt := topS 44
abbrev qn_first_least : Str := (envOfC "first_least" (defScope s_first_least) 0 0 .none).qual ++ "<lambda>"
structure Txt (K : Frag) (mg : Str → Option Value) (base : Heap) (Θ : TbL) where
  a_is_integer : Addr
  d_is_integer : FuncData
  F_is_integer : Fun K "is_integer" "is_integer" s_is_integer a_is_integer d_is_integer
  b_is_integer : Binds K d_is_integer P_is_integer []
  a_is_between : Addr
  d_is_between : FuncData
  F_is_between : Fun K "is_between" "is_between" s_is_between a_is_between d_is_between
  b_is_between : Binds K d_is_between P_is_between []
  a_are_quotas : Addr
  d_are_quotas : FuncData
  F_are_quotas : Fun K "are_quotas" "are_quotas" s_are_quotas a_are_quotas d_are_quotas
  b_are_quotas : Binds K d_are_quotas P_are_quotas []
  a_are_weights : Addr
  d_are_weights : FuncData
  F_are_weights : Fun K "are_weights" "are_weights" s_are_weights a_are_weights d_are_weights
  b_are_weights : Binds K d_are_weights P_are_weights []
  a_Council_init : Addr
  d_Council_init : FuncData
  F_Council_init : Fun K "__init__" "Council.__init__" s_Council_init a_Council_init d_Council_init
  b_Council_init : Binds K d_Council_init P_Council_init []
  a_Council_total : Addr
  d_Council_total : FuncData
  F_Council_total : Fun K "total" "Council.total" s_Council_total a_Council_total d_Council_total
  b_Council_total : Binds K d_Council_total P_Council_total []
  a_Council_mirrored : Addr
  d_Council_mirrored : FuncData
  F_Council_mirrored : Fun K "mirrored" "Council.mirrored" s_Council_mirrored a_Council_mirrored d_Council_mirrored
  b_Council_mirrored : Binds K d_Council_mirrored P_Council_mirrored []
  a_Council_width : Addr
  d_Council_width : FuncData
  F_Council_width : Fun K "width" "Council.width" s_Council_width a_Council_width d_Council_width
  b_Council_width : Binds K d_Council_width P_Council_width []
  a_all_sides : Addr
  d_all_sides : FuncData
  F_all_sides : Fun K "all_sides" "all_sides" s_all_sides a_all_sides d_all_sides
  b_all_sides : Binds K d_all_sides P_all_sides []
  a_first_least : Addr
  d_first_least : FuncData
  F_first_least : Fun K "first_least" "first_least" s_first_least a_first_least d_first_least
  b_first_least : Binds K d_first_least P_first_least []
  tc_first_least : Addr
  tP_first_least : Addr
  hc_first_least : d_first_least.code = .ref tc_first_least
  tb_first_least : LamX.TabB base mg tc_first_least tP_first_least
  in_first_least : (tP_first_least, qn_first_least) ∈ Θ
  un_first_least : ∀ p ∈ Θ, p.1 = tP_first_least → p.2 = qn_first_least
  a_bits_of : Addr
  d_bits_of : FuncData
  F_bits_of : Fun K "bits_of" "bits_of" s_bits_of a_bits_of d_bits_of
  b_bits_of : Binds K d_bits_of P_bits_of []
  a_Council_weights : Addr
  d_Council_weights : FuncData
  F_Council_weights : Fun K "weights" "Council.weights" s_Council_weights a_Council_weights d_Council_weights
  b_Council_weights : Binds K d_Council_weights P_Council_weights []
  a_Packer_init : Addr
  d_Packer_init : FuncData
  F_Packer_init : Fun K "__init__" "Packer.__init__" s_Packer_init a_Packer_init d_Packer_init
  b_Packer_init : Binds K d_Packer_init P_Packer_init []
  a_first_fit : Addr
  d_first_fit : FuncData
  F_first_fit : Fun K "first_fit" "first_fit" s_first_fit a_first_fit d_first_fit
  b_first_fit : Binds K d_first_fit P_first_fit []
  a_fits : Addr
  d_fits : FuncData
  F_fits : Fun K "fits" "fits" s_fits a_fits d_fits
  b_fits : Binds K d_fits P_fits []
  a_next_loads : Addr
  d_next_loads : FuncData
  F_next_loads : Fun K "next_loads" "next_loads" s_next_loads a_next_loads d_next_loads
  b_next_loads : Binds K d_next_loads P_next_loads []
  a_load_levels : Addr
  d_load_levels : FuncData
  F_load_levels : Fun K "load_levels" "load_levels" s_load_levels a_load_levels d_load_levels
  b_load_levels : Binds K d_load_levels P_load_levels []
  a_can_pack : Addr
  d_can_pack : FuncData
  F_can_pack : Fun K "can_pack" "can_pack" s_can_pack a_can_pack d_can_pack
  b_can_pack : Binds K d_can_pack P_can_pack []
  a_members : Addr
  d_members : FuncData
  F_members : Fun K "members" "members" s_members a_members d_members
  b_members : Binds K d_members P_members []
  a_Packer_is_heavy : Addr
  d_Packer_is_heavy : FuncData
  F_Packer_is_heavy : Fun K "is_heavy" "Packer.is_heavy" s_Packer_is_heavy a_Packer_is_heavy d_Packer_is_heavy
  b_Packer_is_heavy : Binds K d_Packer_is_heavy P_Packer_is_heavy []
  a_heavy_masks : Addr
  d_heavy_masks : FuncData
  F_heavy_masks : Fun K "heavy_masks" "heavy_masks" s_heavy_masks a_heavy_masks d_heavy_masks
  b_heavy_masks : Binds K d_heavy_masks P_heavy_masks []
  a_Council_allowance : Addr
  d_Council_allowance : FuncData
  F_Council_allowance : Fun K "allowance" "Council.allowance" s_Council_allowance a_Council_allowance d_Council_allowance
  b_Council_allowance : Binds K d_Council_allowance P_Council_allowance []
  a_rooms_of : Addr
  d_rooms_of : FuncData
  F_rooms_of : Fun K "rooms_of" "rooms_of" s_rooms_of a_rooms_of d_rooms_of
  b_rooms_of : Binds K d_rooms_of P_rooms_of []
  a_heavy_table : Addr
  d_heavy_table : FuncData
  F_heavy_table : Fun K "heavy_table" "heavy_table" s_heavy_table a_heavy_table d_heavy_table
  b_heavy_table : Binds K d_heavy_table P_heavy_table []
  a_heavy_sets : Addr
  d_heavy_sets : FuncData
  F_heavy_sets : Fun K "heavy_sets" "heavy_sets" s_heavy_sets a_heavy_sets d_heavy_sets
  b_heavy_sets : Binds K d_heavy_sets P_heavy_sets []
  a_is_light : Addr
  d_is_light : FuncData
  F_is_light : Fun K "is_light" "is_light" s_is_light a_is_light d_is_light
  b_is_light : Binds K d_is_light P_is_light []
  a_gains : Addr
  d_gains : FuncData
  F_gains : Fun K "gains" "gains" s_gains a_gains d_gains
  b_gains : Binds K d_gains P_gains []
  a_compare : Addr
  d_compare : FuncData
  F_compare : Fun K "compare" "compare" s_compare a_compare d_compare
  b_compare : Binds K d_compare P_compare []
  a_index_lists : Addr
  d_index_lists : FuncData
  F_index_lists : Fun K "index_lists" "index_lists" s_index_lists a_index_lists d_index_lists
  b_index_lists : Binds K d_index_lists P_index_lists []
  a_fewest : Addr
  d_fewest : FuncData
  F_fewest : Fun K "fewest" "fewest" s_fewest a_fewest d_fewest
  b_fewest : Binds K d_fewest P_fewest []
  a_law_bag : Addr
  d_law_bag : FuncData
  F_law_bag : Fun K "_law_bag" "_law_bag" s_law_bag a_law_bag d_law_bag
  b_law_bag : Binds K d_law_bag P_law_bag []
  a_law_take : Addr
  d_law_take : FuncData
  F_law_take : Fun K "_law_take" "_law_take" s_law_take a_law_take d_law_take
  b_law_take : Binds K d_law_take P_law_take []
  a_law_council : Addr
  d_law_council : FuncData
  F_law_council : Fun K "_law_council" "_law_council" s_law_council a_law_council d_law_council
  b_law_council : Binds K d_law_council P_law_council []
  a_same_power : Addr
  d_same_power : FuncData
  F_same_power : Fun K "same_power" "same_power" s_same_power a_same_power d_same_power
  b_same_power : Binds K d_same_power P_same_power []
  a_law_ends_right : Addr
  d_law_ends_right : FuncData
  F_law_ends_right : Fun K "_law_ends_right" "_law_ends_right" s_law_ends_right a_law_ends_right d_law_ends_right
  b_law_ends_right : Binds K d_law_ends_right P_law_ends_right []
  a_law_half : Addr
  d_law_half : FuncData
  F_law_half : Fun K "_law_half" "_law_half" s_law_half a_law_half d_law_half
  b_law_half : Binds K d_law_half P_law_half []
  a_law : Addr
  d_law : FuncData
  F_law : Fun K "law" "law" s_law a_law d_law
  b_law : Binds K d_law P_law []
  at_Council : Addr
  C_Council : mg "Council" = some (.ref at_Council)
  cl_Council : Cls K at_Council
  mk_Council : Mk K at_Council a_Council_init
  at_Packer : Addr
  C_Packer : mg "Packer" = some (.ref at_Packer)
  cl_Packer : Cls K at_Packer
  mk_Packer : Mk K at_Packer a_Packer_init
  n_Council_column_quotas : NoAttr K at_Council "column_quotas"
  n_Council_seat_weights : NoAttr K at_Council "seat_weights"
  n_Packer_its_answers : NoAttr K at_Packer "its_answers"
  n_Packer_its_rooms : NoAttr K at_Packer "its_rooms"
  n_Packer_its_weights : NoAttr K at_Packer "its_weights"
  m_is_integer : mg "is_integer" = some (.ref a_is_integer)
  m_is_between : mg "is_between" = some (.ref a_is_between)
  m_are_quotas : mg "are_quotas" = some (.ref a_are_quotas)
  m_are_weights : mg "are_weights" = some (.ref a_are_weights)
  m_Council_total : Meth K at_Council "total" a_Council_total
  m_Council_mirrored : Meth K at_Council "mirrored" a_Council_mirrored
  m_Council_width : Meth K at_Council "width" a_Council_width
  m_all_sides : mg "all_sides" = some (.ref a_all_sides)
  m_first_least : mg "first_least" = some (.ref a_first_least)
  m_bits_of : mg "bits_of" = some (.ref a_bits_of)
  m_Council_weights : Meth K at_Council "weights" a_Council_weights
  m_first_fit : mg "first_fit" = some (.ref a_first_fit)
  m_fits : mg "fits" = some (.ref a_fits)
  m_next_loads : mg "next_loads" = some (.ref a_next_loads)
  m_load_levels : mg "load_levels" = some (.ref a_load_levels)
  m_can_pack : mg "can_pack" = some (.ref a_can_pack)
  m_members : mg "members" = some (.ref a_members)
  m_Packer_is_heavy : Meth K at_Packer "is_heavy" a_Packer_is_heavy
  m_heavy_masks : mg "heavy_masks" = some (.ref a_heavy_masks)
  m_Council_allowance : Meth K at_Council "allowance" a_Council_allowance
  m_rooms_of : mg "rooms_of" = some (.ref a_rooms_of)
  m_heavy_table : mg "heavy_table" = some (.ref a_heavy_table)
  m_heavy_sets : mg "heavy_sets" = some (.ref a_heavy_sets)
  m_is_light : mg "is_light" = some (.ref a_is_light)
  m_gains : mg "gains" = some (.ref a_gains)
  m_compare : mg "compare" = some (.ref a_compare)
  m_index_lists : mg "index_lists" = some (.ref a_index_lists)
  m_fewest : mg "fewest" = some (.ref a_fewest)
  m_law_bag : mg "_law_bag" = some (.ref a_law_bag)
  m_law_take : mg "_law_take" = some (.ref a_law_take)
  m_law_council : mg "_law_council" = some (.ref a_law_council)
  m_same_power : mg "same_power" = some (.ref a_same_power)
  m_law_ends_right : mg "_law_ends_right" = some (.ref a_law_ends_right)
  m_law_half : mg "_law_half" = some (.ref a_law_half)
  m_law : mg "law" = some (.ref a_law)
  z_abs : mg "abs" = none
  z_all : mg "all" = none
  z_any : mg "any" = none
  z_bool : mg "bool" = none
  z_enumerate : mg "enumerate" = none
  z_int : mg "int" = none
  z_isinstance : mg "isinstance" = none
  z_len : mg "len" = none
  z_list : mg "list" = none
  z_max : mg "max" = none
  z_min : mg "min" = none
  z_range : mg "range" = none
  z_sorted : mg "sorted" = none
  z_sum : mg "sum" = none
  z_tuple : mg "tuple" = none
  z_zip : mg "zip" = none
  g_LEAST_SEATS : ∃ tk : Tok, mg "LEAST_SEATS" = some (.int (2) tk)
  g_MOST_COLUMNS : ∃ tk : Tok, mg "MOST_COLUMNS" = some (.int (6) tk)
  g_MOST_SEATS : ∃ tk : Tok, mg "MOST_SEATS" = some (.int (7) tk)
  g_MOST_WEIGHT : ∃ tk : Tok, mg "MOST_WEIGHT" = some (.int (1000000) tk)
section
variable {P : Program} {w : World} {K : Frag} {mg : Str → Option Value} {base : Heap} {Θ : TbL}
theorem sc_is_integer : FnScope N_is_integer P_is_integer (defScope s_is_integer) := ⟨rfl, rfl, rfl, by decide +kernel, rfl, by decide +kernel, by decide +kernel⟩
theorem ok_is_integer (T : Txt K mg base Θ) : FnOk P w K mg base CX0 1 T.a_is_integer T.d_is_integer P_is_integer (spOf K ⟨mg, w, Θ⟩ c_is_integer) := by
  have nd := (sc_is_integer).nd
  exact fn_pd (k := 0) (t := t_is_integer) T.F_is_integer sc_is_integer l_is_integer (fun cdv A outer s H E hr => (qss_one (qs_ret (q_and (q_isi T.z_isinstance (qa_cons (q_var 0) (qa_cons (q_ty T.z_int (by decide +kernel)) qa_nil))) (q_and1 (q_not (q_isi T.z_isinstance (qa_cons (q_var 0) (qa_cons (q_ty T.z_bool (by decide +kernel)) qa_nil))))))))) b_is_integer
theorem sc_is_between : FnScope N_is_between P_is_between (defScope s_is_between) := ⟨rfl, rfl, rfl, by decide +kernel, rfl, by decide +kernel, by decide +kernel⟩
theorem ok_is_between (T : Txt K mg base Θ) : FnOk P w K mg base CX0 2 T.a_is_between T.d_is_between P_is_between (spOf K ⟨mg, w, Θ⟩ c_is_between) := by
  have nd := (sc_is_between).nd
  exact fn_pd (k := 1) (t := t_is_between) T.F_is_between sc_is_between l_is_between (fun cdv A outer s H E hr => (qss_one (qs_ret (q_and (q_call (ok_is_integer T) (hr.mono (by decide)) T.m_is_integer T.F_is_integer.kp T.b_is_integer (qa_cons (q_var 0) qa_nil)) (q_and1 (q_chain op_le op_le o2_le o2_le (q_var 1) (q_var 0) (q_var 2))))))) b_is_between
theorem sc_are_quotas : FnScope N_are_quotas P_are_quotas (defScope s_are_quotas) := ⟨rfl, rfl, rfl, by decide +kernel, rfl, by decide +kernel, by decide +kernel⟩
theorem ok_are_quotas (T : Txt K mg base Θ) : FnOk P w K mg base CX0 3 T.a_are_quotas T.d_are_quotas P_are_quotas (spOf K ⟨mg, w, Θ⟩ c_are_quotas) := by
  have nd := (sc_are_quotas).nd
  exact fn_pd (k := 2) (t := t_are_quotas) T.F_are_quotas sc_are_quotas l_are_quotas (fun cdv A outer s H E hr => (qss_cons (qs_if (PW.pt (qw_or (qt_not (qt_val (q_isi T.z_isinstance (qa_cons (q_var 0) (qa_cons (q_ty T.z_list (by decide +kernel)) qa_nil))))) (qw_or1 (qt_not (qt_chain op_le op_le o2_le o2_le q_int (q_len T.z_len (qa_cons (q_var 0) qa_nil)) (q_gI T.g_MOST_COLUMNS.choose_spec)))))) (qss_one (qs_ret q_bl)) qss_nil)
  (qss_one (qs_ret (q_all rfl T.z_all (qa_cons (q_data (q_comp [("quota", 2)] rfl nd (qi_seq (q_var 0)) rfl ⟨_, fun _ _ _ _ _ => pg_name (i := 2) nd rfl (by first | exact Or.inl rfl | exact Or.inr rfl), g_name 2⟩ (fun _ _ _ _ _ => qts_nil) (fun _ _ _ _ _ => (q_call (ok_is_between T) (hr.mono (by decide)) T.m_is_between T.F_is_between.kp T.b_is_between (qa_cons (q_var 2) (qa_cons q_int (qa_cons (q_var 1) qa_nil))))))) qa_nil)))))) b_are_quotas
theorem sc_are_weights : FnScope N_are_weights P_are_weights (defScope s_are_weights) := ⟨rfl, rfl, rfl, by decide +kernel, rfl, by decide +kernel, by decide +kernel⟩
theorem ok_are_weights (T : Txt K mg base Θ) : FnOk P w K mg base CX0 3 T.a_are_weights T.d_are_weights P_are_weights (spOf K ⟨mg, w, Θ⟩ c_are_weights) := by
  have nd := (sc_are_weights).nd
  exact fn_pd (k := 2) (t := t_are_weights) T.F_are_weights sc_are_weights l_are_weights (fun cdv A outer s H E hr => (qss_cons (qs_if (PW.pt (qw_or (qt_not (qt_val (q_isi T.z_isinstance (qa_cons (q_var 0) (qa_cons (q_ty T.z_list (by decide +kernel)) qa_nil))))) (qw_or1 (qt_not (qt_chain op_le op_le o2_le o2_le (q_gI T.g_LEAST_SEATS.choose_spec) (q_len T.z_len (qa_cons (q_var 0) qa_nil)) (q_gI T.g_MOST_SEATS.choose_spec)))))) (qss_one (qs_ret q_bl)) qss_nil)
  (qss_one (qs_ret (q_all rfl T.z_all (qa_cons (q_data (q_comp [("weight", 1)] rfl nd (qi_seq (q_var 0)) rfl ⟨_, fun _ _ _ _ _ => pg_name (i := 1) nd rfl (by first | exact Or.inl rfl | exact Or.inr rfl), g_name 1⟩ (fun _ _ _ _ _ => qts_nil) (fun _ _ _ _ _ => (q_call (ok_is_between T) (hr.mono (by decide)) T.m_is_between T.F_is_between.kp T.b_is_between (qa_cons (q_var 1) (qa_cons q_int (qa_cons (q_gI T.g_MOST_WEIGHT.choose_spec) qa_nil))))))) qa_nil)))))) b_are_weights
theorem sc_Council_init : FnScope N_Council_init P_Council_init (defScope s_Council_init) := ⟨rfl, rfl, rfl, by decide +kernel, rfl, by decide +kernel, by decide +kernel⟩
theorem ok_Council_init (T : Txt K mg base Θ) : FnOk P w K mg base CX0 4 T.a_Council_init T.d_Council_init P_Council_init (spOf K ⟨mg, w, Θ⟩ c_Council_init) := by
  have nd := (sc_Council_init).nd
  exact fn_pd (k := 3) (t := t_Council_init) T.F_Council_init sc_Council_init l_Council_init (fun cdv A outer s H E hr => (qss_cons (qs_if (qt_not (qt_val (q_call (ok_are_weights T) (hr.mono (by decide)) T.m_are_weights T.F_are_weights.kp T.b_are_weights (qa_cons (q_var 1) qa_nil)))) (qss_one qs_never) qss_nil)
  (qss_cons (qs_if (qt_not (qt_val (q_call (ok_are_quotas T) (hr.mono (by decide)) T.m_are_quotas T.F_are_quotas.kp T.b_are_quotas (qa_cons (q_var 2) (qa_cons (q_sum rfl T.z_sum (qa_cons (q_var 1) qa_nil)) qa_nil))))) (qss_one qs_never) qss_nil)
  (qss_cons (qs_fld T.C_Council T.cl_Council T.n_Council_seat_weights (q_var 0) (q_data (q_list T.z_list (q_var 1))))
  (qss_one (qs_fld T.C_Council T.cl_Council T.n_Council_column_quotas (q_var 0) (q_data (q_list T.z_list (q_var 2))))))))) b_Council_init
theorem sc_Council_total : FnScope N_Council_total P_Council_total (defScope s_Council_total) := ⟨rfl, rfl, rfl, by decide +kernel, rfl, by decide +kernel, by decide +kernel⟩
theorem ok_Council_total (T : Txt K mg base Θ) : FnOk P w K mg base CX0 1 T.a_Council_total T.d_Council_total P_Council_total (spOf K ⟨mg, w, Θ⟩ c_Council_total) := by
  have nd := (sc_Council_total).nd
  exact fn_pd (k := 0) (t := t_Council_total) T.F_Council_total sc_Council_total l_Council_total (fun cdv A outer s H E hr => (qss_one (qs_ret (q_sum rfl T.z_sum (qa_cons (q_fld T.C_Council T.cl_Council T.n_Council_seat_weights (q_var 0)) qa_nil))))) b_Council_total
theorem sc_Council_mirrored : FnScope N_Council_mirrored P_Council_mirrored (defScope s_Council_mirrored) := ⟨rfl, rfl, rfl, by decide +kernel, rfl, by decide +kernel, by decide +kernel⟩
theorem ok_Council_mirrored (T : Txt K mg base Θ) : FnOk P w K mg base CX0 6 T.a_Council_mirrored T.d_Council_mirrored P_Council_mirrored (spOf K ⟨mg, w, Θ⟩ c_Council_mirrored) := by
  have nd := (sc_Council_mirrored).nd
  exact fn_pd (k := 5) (t := t_Council_mirrored) T.F_Council_mirrored sc_Council_mirrored l_Council_mirrored (fun cdv A outer s H E hr => (qss_one (qs_ret (q_frz (q_make T.C_Council T.mk_Council (ok_Council_init T) (hr.mono (by decide)) T.b_Council_init (qa_cons (q_fld T.C_Council T.cl_Council T.n_Council_seat_weights (q_var 0)) (qa_cons (q_data (q_comp [("quota", 1)] rfl nd (qi_seq (q_fld T.C_Council T.cl_Council T.n_Council_column_quotas (q_var 0))) rfl ⟨_, fun _ _ _ _ _ => pg_name (i := 1) nd rfl (by first | exact Or.inl rfl | exact Or.inr rfl), g_name 1⟩ (fun _ _ _ _ _ => qts_nil) (fun _ _ _ _ _ => (q_sub (q_add (q_meth0 T.C_Council T.cl_Council T.m_Council_total (ok_Council_total T) (hr.mono (by decide)) T.b_Council_total (q_var 0)) q_int) (q_var 1))))) qa_nil))))))) b_Council_mirrored
theorem sc_Council_width : FnScope N_Council_width P_Council_width (defScope s_Council_width) := ⟨rfl, rfl, rfl, by decide +kernel, rfl, by decide +kernel, by decide +kernel⟩
theorem ok_Council_width (T : Txt K mg base Θ) : FnOk P w K mg base CX0 1 T.a_Council_width T.d_Council_width P_Council_width (spOf K ⟨mg, w, Θ⟩ c_Council_width) := by
  have nd := (sc_Council_width).nd
  exact fn_pd (k := 0) (t := t_Council_width) T.F_Council_width sc_Council_width l_Council_width (fun cdv A outer s H E hr => (qss_one (qs_ret (q_len T.z_len (qa_cons (q_fld T.C_Council T.cl_Council T.n_Council_column_quotas (q_var 0)) qa_nil))))) b_Council_width
theorem sc_all_sides : FnScope N_all_sides P_all_sides (defScope s_all_sides) := ⟨rfl, rfl, rfl, by decide +kernel, rfl, by decide +kernel, by decide +kernel⟩
theorem ok_all_sides (T : Txt K mg base Θ) : FnOk P w K mg base CX0 1 T.a_all_sides T.d_all_sides P_all_sides (spOf K ⟨mg, w, Θ⟩ c_all_sides) := by
  have nd := (sc_all_sides).nd
  exact fn_pd (k := 0) (t := t_all_sides) T.F_all_sides sc_all_sides l_all_sides (fun cdv A outer s H E hr => (qss_one (qs_ret (q_data (q_comp2 [("column", 1), ("way", 2)] [2] rfl nd (qi_rng1 T.z_range (qa_cons (q_var 0) qa_nil)) rfl ⟨_, fun _ _ _ _ _ => pg_name (i := 1) nd rfl (by first | exact Or.inl rfl | exact Or.inr rfl), g_name 1⟩ (fun _ _ _ _ _ => qts_nil) (fun _ _ _ _ _ => (qi_seq (q_tup (qa_cons q_str (qa_cons q_str qa_nil))))) ⟨_, fun _ _ _ _ _ => pg_name (i := 2) nd rfl (by first | exact Or.inl rfl | exact Or.inr rfl), g_name 2⟩ (fun _ _ _ _ _ => qts_nil) (fun _ _ _ _ _ => (q_tup (qa_cons (q_var 1) (qa_cons (q_var 2) qa_nil))))))))) b_all_sides
theorem sc_first_least : FnScope N_first_least P_first_least (defScope s_first_least) := ⟨rfl, rfl, rfl, by decide +kernel, rfl, by decide +kernel, by decide +kernel⟩
theorem ok_first_least (T : Txt K mg base Θ) : FnOk P w K mg base CX0 1 T.a_first_least T.d_first_least P_first_least (spOf K ⟨mg, w, Θ⟩ c_first_least) := by
  have nd := (sc_first_least).nd
  exact fn_pdL (k := 0) (t := t_first_least) T.F_first_least sc_first_least l_first_least (fun A outer s H E hr => (qss_one (qs_ret (q_minL T.z_min T.z_len (q_var 0) T.tb_first_least T.hc_first_least T.in_first_least T.un_first_least rfl hr (lam1_by rfl) rfl rfl (by decide) (fun _ _ _ _ _ _ => rfl))))) b_first_least
theorem sc_bits_of : FnScope N_bits_of P_bits_of (defScope s_bits_of) := ⟨rfl, rfl, rfl, by decide +kernel, rfl, by decide +kernel, by decide +kernel⟩
theorem ok_bits_of (T : Txt K mg base Θ) : FnOk P w K mg base CX0 1 T.a_bits_of T.d_bits_of P_bits_of (spOf K ⟨mg, w, Θ⟩ c_bits_of) := by
  have nd := (sc_bits_of).nd
  exact fn_pd (k := 0) (t := t_bits_of) T.F_bits_of sc_bits_of l_bits_of (fun cdv A outer s H E hr => (qss_cons (qs_set 1 nd (q_cell (q_lst qa_nil)))
  (qss_cons (qs_for PassesOwn.never rfl (qi_rng1 T.z_range (qa_cons (q_var 0) qa_nil)) (qg_name 2 nd)
  (qss_one (qs_expr (q_append (q_var 1) (q_ifExp (qt_eq hr (q_var 1) (q_data (q_lst qa_nil))) q_int (q_mul q_int (q_ix (q_var 1) (q_neg q_int))))))))
  (qss_frz 1 (qss_one (qs_ret (q_var 1))))))) b_bits_of
theorem sc_Council_weights : FnScope N_Council_weights P_Council_weights (defScope s_Council_weights) := ⟨rfl, rfl, rfl, by decide +kernel, rfl, by decide +kernel, by decide +kernel⟩
theorem ok_Council_weights (T : Txt K mg base Θ) : FnOk P w K mg base CX0 1 T.a_Council_weights T.d_Council_weights P_Council_weights (spOf K ⟨mg, w, Θ⟩ c_Council_weights) := by
  have nd := (sc_Council_weights).nd
  exact fn_pd (k := 0) (t := t_Council_weights) T.F_Council_weights sc_Council_weights l_Council_weights (fun cdv A outer s H E hr => (qss_one (qs_ret (q_data (q_list T.z_list (q_fld T.C_Council T.cl_Council T.n_Council_seat_weights (q_var 0))))))) b_Council_weights
theorem sc_Packer_init : FnScope N_Packer_init P_Packer_init (defScope s_Packer_init) := ⟨rfl, rfl, rfl, by decide +kernel, rfl, by decide +kernel, by decide +kernel⟩
theorem ok_Packer_init (T : Txt K mg base Θ) : FnOk P w K mg base CX0 1 T.a_Packer_init T.d_Packer_init P_Packer_init (spOf K ⟨mg, w, Θ⟩ c_Packer_init) := by
  have nd := (sc_Packer_init).nd
  exact fn_pd (k := 0) (t := t_Packer_init) T.F_Packer_init sc_Packer_init l_Packer_init (fun cdv A outer s H E hr => (qss_cons (qs_fld T.C_Packer T.cl_Packer T.n_Packer_its_weights (q_var 0) (q_var 1))
  (qss_cons (qs_fld T.C_Packer T.cl_Packer T.n_Packer_its_rooms (q_var 0) (q_var 2))
  (qss_one (qs_fld T.C_Packer T.cl_Packer T.n_Packer_its_answers (q_var 0) q_dic))))) b_Packer_init
theorem sc_first_fit : FnScope N_first_fit P_first_fit (defScope s_first_fit) := ⟨rfl, rfl, rfl, by decide +kernel, rfl, by decide +kernel, by decide +kernel⟩
theorem ok_first_fit (T : Txt K mg base Θ) : FnOk P w K mg base CX0 1 T.a_first_fit T.d_first_fit P_first_fit (spOf K ⟨mg, w, Θ⟩ c_first_fit) := by
  have nd := (sc_first_fit).nd
  exact fn_pd (k := 0) (t := t_first_fit) T.F_first_fit sc_first_fit l_first_fit (fun cdv A outer s H E hr => (qss_cons (qs_set 2 nd (q_cell (q_list T.z_list (q_var 1))))
  (qss_cons (qs_for PassesOwn.never rfl (qi_seq (q_var 0)) (qg_name 3 nd)
  (qss_cons (qs_asgL (qs_setCompP 4 [("index", 5), ("room", 6)] rfl nd (qi_enumC T.z_enumerate (qa_cons (q_var 2) qa_nil)) rfl ⟨_, fun _ _ _ _ _ => (pg_tup rfl (pgs_cons (pg_name (i := 5) nd rfl (by first | exact Or.inl rfl | exact Or.inr rfl)) (pgs_cons (pg_name (i := 6) nd rfl (by first | exact Or.inl rfl | exact Or.inr rfl)) pgs_nil))), (g_tup (gs_cons (g_name 5) (gs_cons (g_name 6) gs_nil)))⟩ (fun _ _ _ _ _ => (qts_one (qt_ge (q_var 6) (q_var 3)))) (fun _ _ _ _ _ => (q_var 5)) (sw_true rfl rfl rfl (by decide +kernel))))
  (qss_cons (qs_if (qt_eq hr (q_var 4) (q_data (q_lst qa_nil))) (qss_one (qs_ret q_bl)) qss_nil)
  (qss_one (qs_augS (q_var 2) (q_ix (q_var 4) q_int) (q_var 3) ip_sub op2_ipI)))))
  (qss_frz 2 (qss_one (qs_ret q_bl)))))) b_first_fit
theorem sc_fits : FnScope N_fits P_fits (defScope s_fits) := ⟨rfl, rfl, rfl, by decide +kernel, rfl, by decide +kernel, by decide +kernel⟩
theorem ok_fits (T : Txt K mg base Θ) : FnOk P w K mg base CX0 1 T.a_fits T.d_fits P_fits (spOf K ⟨mg, w, Θ⟩ c_fits) := by
  have nd := (sc_fits).nd
  exact fn_pd (k := 0) (t := t_fits) T.F_fits sc_fits l_fits (fun cdv A outer s H E hr => (qss_one (qs_ret (q_and (q_le (q_len T.z_len (qa_cons (q_var 0) qa_nil)) (q_len T.z_len (qa_cons (q_var 1) qa_nil))) (q_and1 (q_all rfl T.z_all (qa_cons (q_data (q_comp [("one", 2), ("top", 3)] rfl nd (qi_zipM T.z_zip (qa_cons (q_var 0) (qa_cons (q_var 1) qa_nil))) rfl ⟨_, fun _ _ _ _ _ => (pg_tup rfl (pgs_cons (pg_name (i := 2) nd rfl (by first | exact Or.inl rfl | exact Or.inr rfl)) (pgs_cons (pg_name (i := 3) nd rfl (by first | exact Or.inl rfl | exact Or.inr rfl)) pgs_nil))), (g_tup (gs_cons (g_name 2) (gs_cons (g_name 3) gs_nil)))⟩ (fun _ _ _ _ _ => qts_nil) (fun _ _ _ _ _ => (q_le (q_var 2) (q_var 3))))) qa_nil))))))) b_fits
theorem sc_next_loads : FnScope N_next_loads P_next_loads (defScope s_next_loads) := ⟨rfl, rfl, rfl, by decide +kernel, rfl, by decide +kernel, by decide +kernel⟩
theorem ok_next_loads (T : Txt K mg base Θ) : FnOk P w K mg base CX0 1 T.a_next_loads T.d_next_loads P_next_loads (spOf K ⟨mg, w, Θ⟩ c_next_loads) := by
  have nd := (sc_next_loads).nd
  exact fn_pd (k := 0) (t := t_next_loads) T.F_next_loads sc_next_loads l_next_loads (fun cdv A outer s H E hr => (qss_cons (qs_set 2 nd (q_cell (q_lst (qa_cons (q_add (q_var 0) (q_tup (qa_cons (q_var 1) qa_nil))) qa_nil))))
  (qss_cons (qs_for PassesOwn.never rfl (qi_rng1 T.z_range (qa_cons (q_len T.z_len (qa_cons (q_var 0) qa_nil)) qa_nil)) (qg_name 3 nd)
  (qss_one (qs_expr (q_append (q_var 2) (q_add (q_add (q_slice (q_var 0) qo_none (qo_some (q_var 3))) (q_tup (qa_cons (q_add (q_ix (q_var 0) (q_var 3)) (q_var 1)) qa_nil))) (q_slice (q_var 0) (qo_some (q_add (q_var 3) q_int)) qo_none))))))
  (qss_frz 2 (qss_one (qs_ret (q_data (q_comp [("one", 4)] rfl nd (qi_seq (q_var 2)) rfl ⟨_, fun _ _ _ _ _ => pg_name (i := 4) nd rfl (by first | exact Or.inl rfl | exact Or.inr rfl), g_name 4⟩ (fun _ _ _ _ _ => qts_nil) (fun _ _ _ _ _ => (q_tuple T.z_tuple (qa_cons (q_sortTR hr T.z_sorted (q_var 4)) qa_nil))))))))))) b_next_loads
theorem sc_load_levels : FnScope N_load_levels P_load_levels (defScope s_load_levels) := ⟨rfl, rfl, rfl, by decide +kernel, rfl, by decide +kernel, by decide +kernel⟩
theorem ok_load_levels (T : Txt K mg base Θ) : FnOk P w K mg base CX0 2 T.a_load_levels T.d_load_levels P_load_levels (spOf K ⟨mg, w, Θ⟩ c_load_levels) := by
  have nd := (sc_load_levels).nd
  exact fn_pd (k := 1) (t := t_load_levels) T.F_load_levels sc_load_levels l_load_levels (fun cdv A outer s H E hr => (qss_cons (qs_set 2 nd (q_sortR T.z_sorted (q_var 1)))
  (qss_cons (qs_set 3 nd (q_cell (q_lst (qa_cons (q_data (q_lst (qa_cons (q_tup qa_nil) qa_nil))) qa_nil))))
  (qss_cons (qs_for PassesOwn.never rfl (qi_seq (q_var 0)) (qg_name 4 nd)
  (qss_cons (qs_set 5 nd q_dic)
  (qss_cons (qs_for PassesOwn.never rfl (qi_seq (q_ix (q_var 3) (q_neg q_int))) (qg_name 6 nd)
  (qss_one (qs_for PassesOwn.never rfl (qi_seq (q_call (ok_next_loads T) (hr.mono (by decide)) T.m_next_loads T.F_next_loads.kp T.b_next_loads (qa_cons (q_var 6) (qa_cons (q_var 4) qa_nil)))) (qg_name 7 nd)
  (qss_one (qs_if (PW.pt (qw_and (qt_notInN hr (q_var 7) (q_var 5)) (qw_and1 (qt_val (q_call (ok_fits T) (hr.mono (by decide)) T.m_fits T.F_fits.kp T.b_fits (qa_cons (q_var 7) (qa_cons (q_var 2) qa_nil))))))) (qss_one (qs_asg q_bl (qg_subD hr (q_var 5) (q_var 7)))) qss_nil)))))
  (qss_one (qs_expr (q_append (q_var 3) (q_sortD hr T.z_sorted (qa_cons (q_data (q_listN T.z_list (q_var 5) rfl)) qa_nil))))))))
  (qss_frz 3 (qss_one (qs_ret (q_var 3)))))))) b_load_levels
theorem sc_can_pack : FnScope N_can_pack P_can_pack (defScope s_can_pack) := ⟨rfl, rfl, rfl, by decide +kernel, rfl, by decide +kernel, by decide +kernel⟩
theorem ok_can_pack (T : Txt K mg base Θ) : FnOk P w K mg base CX0 3 T.a_can_pack T.d_can_pack P_can_pack (spOf K ⟨mg, w, Θ⟩ c_can_pack) := by
  have nd := (sc_can_pack).nd
  exact fn_pd (k := 2) (t := t_can_pack) T.F_can_pack sc_can_pack l_can_pack (fun cdv A outer s H E hr => (qss_cons (qs_par 2 3 rfl nd (qa_cons (q_sortR T.z_sorted (q_var 0)) (qa_cons (q_sortR T.z_sorted (q_var 1)) qa_nil)))
  (qss_cons (qs_if (PW.pt (qw_or (qt_eq hr (q_var 3) (q_data (q_lst qa_nil))) (qw_or (qt_gt (q_ix (q_var 2) q_int) (q_ix (q_var 3) q_int)) (qw_or1 (qt_gt (q_sum rfl T.z_sum (qa_cons (q_var 2) qa_nil)) (q_sum rfl T.z_sum (qa_cons (q_var 3) qa_nil))))))) (qss_one (qs_ret q_bl)) qss_nil)
  (qss_one (qs_ret (q_or (q_call (ok_first_fit T) (hr.mono (by decide)) T.m_first_fit T.F_first_fit.kp T.b_first_fit (qa_cons (q_var 2) (qa_cons (q_var 3) qa_nil))) (q_or1 (q_ne hr (q_ix (q_call (ok_load_levels T) (hr.mono (by decide)) T.m_load_levels T.F_load_levels.kp T.b_load_levels (qa_cons (q_var 2) (qa_cons (q_var 3) qa_nil))) (q_neg q_int)) (q_data (q_lst qa_nil)))))))))) b_can_pack
theorem sc_members : FnScope N_members P_members (defScope s_members) := ⟨rfl, rfl, rfl, by decide +kernel, rfl, by decide +kernel, by decide +kernel⟩
theorem ok_members (T : Txt K mg base Θ) : FnOk P w K mg base CX0 2 T.a_members T.d_members P_members (spOf K ⟨mg, w, Θ⟩ c_members) := by
  have nd := (sc_members).nd
  exact fn_pd (k := 1) (t := t_members) T.F_members sc_members l_members (fun cdv A outer s H E hr => (qss_one (qs_ret (q_data (q_comp [("item", 2), ("bit", 3)] rfl nd (qi_zipM T.z_zip (qa_cons (q_var 0) (qa_cons (q_call (ok_bits_of T) (hr.mono (by decide)) T.m_bits_of T.F_bits_of.kp T.b_bits_of (qa_cons (q_len T.z_len (qa_cons (q_var 0) qa_nil)) qa_nil)) qa_nil))) rfl ⟨_, fun _ _ _ _ _ => (pg_tup rfl (pgs_cons (pg_name (i := 2) nd rfl (by first | exact Or.inl rfl | exact Or.inr rfl)) (pgs_cons (pg_name (i := 3) nd rfl (by first | exact Or.inl rfl | exact Or.inr rfl)) pgs_nil))), (g_tup (gs_cons (g_name 2) (gs_cons (g_name 3) gs_nil)))⟩ (fun _ _ _ _ _ => (qts_one (qt_ne hr (q_band (q_var 1) (q_var 3)) q_int))) (fun _ _ _ _ _ => (q_var 2))))))) b_members
theorem sc_Packer_is_heavy : FnScope N_Packer_is_heavy P_Packer_is_heavy (defScope s_Packer_is_heavy) := ⟨rfl, rfl, rfl, by decide +kernel, rfl, by decide +kernel, by decide +kernel⟩
theorem ok_Packer_is_heavy (T : Txt K mg base Θ) : FnOk P w K mg base CX0 4 T.a_Packer_is_heavy T.d_Packer_is_heavy P_Packer_is_heavy (spOf K ⟨mg, w, Θ⟩ c_Packer_is_heavy) := by
  have nd := (sc_Packer_is_heavy).nd
  exact fn_pd (k := 3) (t := t_Packer_is_heavy) T.F_Packer_is_heavy sc_Packer_is_heavy l_Packer_is_heavy (fun cdv A outer s H E hr => (qss_cons (qs_set 2 nd (q_tuple T.z_tuple (qa_cons (q_slice (q_sortR T.z_sorted (q_call (ok_members T) (hr.mono (by decide)) T.m_members T.F_members.kp T.b_members (qa_cons (q_fld T.C_Packer T.cl_Packer T.n_Packer_its_rooms (q_var 0)) (qa_cons (q_var 1) qa_nil)))) qo_none (qo_some (q_len T.z_len (qa_cons (q_fld T.C_Packer T.cl_Packer T.n_Packer_its_weights (q_var 0)) qa_nil)))) qa_nil)))
  (qss_cons (qs_if (qt_notInN hr (q_var 2) (q_fld T.C_Packer T.cl_Packer T.n_Packer_its_answers (q_var 0))) (qss_one (qs_asg (q_call (ok_can_pack T) (hr.mono (by decide)) T.m_can_pack T.F_can_pack.kp T.b_can_pack (qa_cons (q_fld T.C_Packer T.cl_Packer T.n_Packer_its_weights (q_var 0)) (qa_cons (q_data (q_list T.z_list (q_var 2))) qa_nil))) (qg_subD hr (q_fld T.C_Packer T.cl_Packer T.n_Packer_its_answers (q_var 0)) (q_var 2)))) qss_nil)
  (qss_one (qs_ret (q_getN hr (q_fld T.C_Packer T.cl_Packer T.n_Packer_its_answers (q_var 0)) (q_var 2))))))) b_Packer_is_heavy
theorem sc_heavy_masks : FnScope N_heavy_masks P_heavy_masks (defScope s_heavy_masks) := ⟨rfl, rfl, rfl, by decide +kernel, rfl, by decide +kernel, by decide +kernel⟩
theorem ok_heavy_masks (T : Txt K mg base Θ) : FnOk P w K mg base CX0 5 T.a_heavy_masks T.d_heavy_masks P_heavy_masks (spOf K ⟨mg, w, Θ⟩ c_heavy_masks) := by
  have nd := (sc_heavy_masks).nd
  exact fn_pd (k := 4) (t := t_heavy_masks) T.F_heavy_masks sc_heavy_masks l_heavy_masks (fun cdv A outer s H E hr => (qss_cons (qs_asgL (qs_setComp 2 [("weights", 3), ("rooms", 4)] rfl nd (qi_seq (q_var 0)) rfl ⟨_, fun _ _ _ _ _ => (pg_tup rfl (pgs_cons (pg_name (i := 3) nd rfl (by first | exact Or.inl rfl | exact Or.inr rfl)) (pgs_cons (pg_name (i := 4) nd rfl (by first | exact Or.inl rfl | exact Or.inr rfl)) pgs_nil))), (g_tup (gs_cons (g_name 3) (gs_cons (g_name 4) gs_nil)))⟩ (fun _ _ _ _ _ => qts_nil) (fun _ _ _ _ _ => (q_make T.C_Packer T.mk_Packer (ok_Packer_init T) (hr.mono (by decide)) T.b_Packer_init (qa_cons (q_var 3) (qa_cons (q_var 4) qa_nil)))) (sw_true rfl rfl rfl (by decide +kernel))))
  (qss_cons (qs_asg (q_tup (qa_cons (q_call (ok_bits_of T) (hr.mono (by decide)) T.m_bits_of T.F_bits_of.kp T.b_bits_of (qa_cons (q_var 1) qa_nil)) (qa_cons (q_cell (q_lst (qa_cons q_bl qa_nil))) qa_nil))) (qg_tup rfl (qgs_cons (qg_name 5 nd) (qgs_cons (qg_name 6 nd) qgs_nil))))
  (qss_cons (qs_for PassesOwn.never rfl (qi_rng2 T.z_range (qa_cons q_int (qa_cons (q_ifExp (qt_ne hr (q_var 5) (q_data (q_lst qa_nil))) (q_mul q_int (q_ix (q_var 5) (q_neg q_int))) q_int) qa_nil))) (qg_name 7 nd)
  (qss_cons (qs_set 8 nd (q_any rfl T.z_any (qa_cons (q_data (q_comp [("bit", 9)] rfl nd (qi_seq (q_var 5)) rfl ⟨_, fun _ _ _ _ _ => pg_name (i := 9) nd rfl (by first | exact Or.inl rfl | exact Or.inr rfl), g_name 9⟩ (fun _ _ _ _ _ => (qts_one (qt_ne hr (q_band (q_var 7) (q_var 9)) q_int))) (fun _ _ _ _ _ => (q_ix (q_var 6) (q_sub (q_var 7) (q_var 9)))))) qa_nil)))
  (qss_one (qs_expr (q_append (q_var 6) (q_or (q_var 8) (q_or1 (q_any rfl T.z_any (qa_cons (q_data (q_comp [("packer", 10)] rfl nd (qi_seq (q_var 2)) rfl ⟨_, fun _ _ _ _ _ => pg_name (i := 10) nd rfl (by first | exact Or.inl rfl | exact Or.inr rfl), g_name 10⟩ (fun _ _ _ _ _ => qts_nil) (fun _ _ _ _ _ => (q_meth T.C_Packer T.cl_Packer T.m_Packer_is_heavy (ok_Packer_is_heavy T) (hr.mono (by decide)) T.b_Packer_is_heavy (q_var 10) (qa_cons (q_var 7) qa_nil))))) qa_nil)))))))))
  (qss_frz 6 (qss_one (qs_ret (q_var 6)))))))) b_heavy_masks
theorem sc_Council_allowance : FnScope N_Council_allowance P_Council_allowance (defScope s_Council_allowance) := ⟨rfl, rfl, rfl, by decide +kernel, rfl, by decide +kernel, by decide +kernel⟩
theorem ok_Council_allowance (T : Txt K mg base Θ) : FnOk P w K mg base CX0 2 T.a_Council_allowance T.d_Council_allowance P_Council_allowance (spOf K ⟨mg, w, Θ⟩ c_Council_allowance) := by
  have nd := (sc_Council_allowance).nd
  exact fn_pd (k := 1) (t := t_Council_allowance) T.F_Council_allowance sc_Council_allowance l_Council_allowance (fun cdv A outer s H E hr => (qss_cons (qs_asg (q_var 1) (qg_tup rfl (qgs_cons (qg_name 2 nd) (qgs_cons (qg_name 3 nd) qgs_nil))))
  (qss_cons (qs_if (qt_eq hr (q_var 3) q_str) (qss_one (qs_ret (q_sub (q_ix (q_fld T.C_Council T.cl_Council T.n_Council_column_quotas (q_var 0)) (q_var 2)) q_int))) qss_nil)
  (qss_one (qs_ret (q_sub (q_meth0 T.C_Council T.cl_Council T.m_Council_total (ok_Council_total T) (hr.mono (by decide)) T.b_Council_total (q_var 0)) (q_ix (q_fld T.C_Council T.cl_Council T.n_Council_column_quotas (q_var 0)) (q_var 2)))))))) b_Council_allowance
theorem sc_rooms_of : FnScope N_rooms_of P_rooms_of (defScope s_rooms_of) := ⟨rfl, rfl, rfl, by decide +kernel, rfl, by decide +kernel, by decide +kernel⟩
theorem ok_rooms_of (T : Txt K mg base Θ) : FnOk P w K mg base CX0 3 T.a_rooms_of T.d_rooms_of P_rooms_of (spOf K ⟨mg, w, Θ⟩ c_rooms_of) := by
  have nd := (sc_rooms_of).nd
  exact fn_pd (k := 2) (t := t_rooms_of) T.F_rooms_of sc_rooms_of l_rooms_of (fun cdv A outer s H E hr => (qss_one (qs_ret (q_data (q_comp [("side", 2)] rfl nd (qi_seq (q_var 1)) rfl ⟨_, fun _ _ _ _ _ => pg_name (i := 2) nd rfl (by first | exact Or.inl rfl | exact Or.inr rfl), g_name 2⟩ (fun _ _ _ _ _ => qts_nil) (fun _ _ _ _ _ => (q_meth T.C_Council T.cl_Council T.m_Council_allowance (ok_Council_allowance T) (hr.mono (by decide)) T.b_Council_allowance (q_var 0) (qa_cons (q_var 2) qa_nil)))))))) b_rooms_of
theorem sc_heavy_table : FnScope N_heavy_table P_heavy_table (defScope s_heavy_table) := ⟨rfl, rfl, rfl, by decide +kernel, rfl, by decide +kernel, by decide +kernel⟩
theorem ok_heavy_table (T : Txt K mg base Θ) : FnOk P w K mg base CX0 6 T.a_heavy_table T.d_heavy_table P_heavy_table (spOf K ⟨mg, w, Θ⟩ c_heavy_table) := by
  have nd := (sc_heavy_table).nd
  exact fn_pd (k := 5) (t := t_heavy_table) T.F_heavy_table sc_heavy_table l_heavy_table (fun cdv A outer s H E hr => (qss_one (qs_ret (q_call (ok_heavy_masks T) (hr.mono (by decide)) T.m_heavy_masks T.F_heavy_masks.kp T.b_heavy_masks (qa_cons (q_data (q_comp [("council", 2)] rfl nd (qi_seq (q_var 0)) rfl ⟨_, fun _ _ _ _ _ => pg_name (i := 2) nd rfl (by first | exact Or.inl rfl | exact Or.inr rfl), g_name 2⟩ (fun _ _ _ _ _ => qts_nil) (fun _ _ _ _ _ => (q_tup (qa_cons (q_meth0 T.C_Council T.cl_Council T.m_Council_weights (ok_Council_weights T) (hr.mono (by decide)) T.b_Council_weights (q_var 2)) (qa_cons (q_call (ok_rooms_of T) (hr.mono (by decide)) T.m_rooms_of T.F_rooms_of.kp T.b_rooms_of (qa_cons (q_var 2) (qa_cons (q_var 1) qa_nil))) qa_nil)))))) (qa_cons (q_len T.z_len (qa_cons (q_var 1) qa_nil)) qa_nil)))))) b_heavy_table
theorem sc_heavy_sets : FnScope N_heavy_sets P_heavy_sets (defScope s_heavy_sets) := ⟨rfl, rfl, rfl, by decide +kernel, rfl, by decide +kernel, by decide +kernel⟩
theorem ok_heavy_sets (T : Txt K mg base Θ) : FnOk P w K mg base CX0 7 T.a_heavy_sets T.d_heavy_sets P_heavy_sets (spOf K ⟨mg, w, Θ⟩ c_heavy_sets) := by
  have nd := (sc_heavy_sets).nd
  exact fn_pd (k := 6) (t := t_heavy_sets) T.F_heavy_sets sc_heavy_sets l_heavy_sets (fun cdv A outer s H E hr => (qss_cons (qs_set 2 nd (q_sortD hr T.z_sorted (qa_cons (q_var 1) qa_nil)))
  (qss_cons (qs_asg (q_tup (qa_cons (q_call (ok_heavy_table T) (hr.mono (by decide)) T.m_heavy_table T.F_heavy_table.kp T.b_heavy_table (qa_cons (q_var 0) (qa_cons (q_var 2) qa_nil))) (qa_cons (q_call (ok_bits_of T) (hr.mono (by decide)) T.m_bits_of T.F_bits_of.kp T.b_bits_of (qa_cons (q_len T.z_len (qa_cons (q_var 2) qa_nil)) qa_nil)) (qa_cons (q_cell (q_lst qa_nil)) qa_nil)))) (qg_tup rfl (qgs_cons (qg_name 3 nd) (qgs_cons (qg_name 4 nd) (qgs_cons (qg_name 5 nd) qgs_nil)))))
  (qss_cons (qs_for PassesOwn.never rfl (qi_rng1 T.z_range (qa_cons (q_len T.z_len (qa_cons (q_var 3) qa_nil)) qa_nil)) (qg_name 6 nd)
  (qss_one (qs_if (PW.pt (qw_and (qt_val (q_ix (q_var 3) (q_var 6))) (qw_and1 (qt_not (qt_val (q_any rfl T.z_any (qa_cons (q_data (q_comp [("bit", 7)] rfl nd (qi_seq (q_var 4)) rfl ⟨_, fun _ _ _ _ _ => pg_name (i := 7) nd rfl (by first | exact Or.inl rfl | exact Or.inr rfl), g_name 7⟩ (fun _ _ _ _ _ => (qts_one (qt_ne hr (q_band (q_var 6) (q_var 7)) q_int))) (fun _ _ _ _ _ => (q_ix (q_var 3) (q_sub (q_var 6) (q_var 7)))))) qa_nil))))))) (qss_one (qs_expr (q_append (q_var 5) (q_call (ok_members T) (hr.mono (by decide)) T.m_members T.F_members.kp T.b_members (qa_cons (q_var 2) (qa_cons (q_var 6) qa_nil)))))) qss_nil)))
  (qss_frz 5 (qss_one (qs_ret (q_sortD hr T.z_sorted (qa_cons (q_var 5) qa_nil))))))))) b_heavy_sets
theorem sc_is_light : FnScope N_is_light P_is_light (defScope s_is_light) := ⟨rfl, rfl, rfl, by decide +kernel, rfl, by decide +kernel, by decide +kernel⟩
theorem ok_is_light (T : Txt K mg base Θ) : FnOk P w K mg base CX0 4 T.a_is_light T.d_is_light P_is_light (spOf K ⟨mg, w, Θ⟩ c_is_light) := by
  have nd := (sc_is_light).nd
  exact fn_pd (k := 3) (t := t_is_light) T.F_is_light sc_is_light l_is_light (fun cdv A outer s H E hr => (qss_one (qs_ret (q_not (q_any rfl T.z_any (qa_cons (q_data (q_comp [("council", 2)] rfl nd (qi_seq (q_var 0)) rfl ⟨_, fun _ _ _ _ _ => pg_name (i := 2) nd rfl (by first | exact Or.inl rfl | exact Or.inr rfl), g_name 2⟩ (fun _ _ _ _ _ => qts_nil) (fun _ _ _ _ _ => (q_call (ok_can_pack T) (hr.mono (by decide)) T.m_can_pack T.F_can_pack.kp T.b_can_pack (qa_cons (q_meth0 T.C_Council T.cl_Council T.m_Council_weights (ok_Council_weights T) (hr.mono (by decide)) T.b_Council_weights (q_var 2)) (qa_cons (q_call (ok_rooms_of T) (hr.mono (by decide)) T.m_rooms_of T.F_rooms_of.kp T.b_rooms_of (qa_cons (q_var 2) (qa_cons (q_var 1) qa_nil))) qa_nil)))))) qa_nil)))))) b_is_light
theorem sc_gains : FnScope N_gains P_gains (defScope s_gains) := ⟨rfl, rfl, rfl, by decide +kernel, rfl, by decide +kernel, by decide +kernel⟩
theorem ok_gains (T : Txt K mg base Θ) : FnOk P w K mg base CX0 8 T.a_gains T.d_gains P_gains (spOf K ⟨mg, w, Θ⟩ c_gains) := by
  have nd := (sc_gains).nd
  exact fn_pd (k := 7) (t := t_gains) T.F_gains sc_gains l_gains (fun cdv A outer s H E hr => (qss_one (qs_ret (q_data (q_comp [("some", 3)] rfl nd (qi_seq (q_call (ok_heavy_sets T) (hr.mono (by decide)) T.m_heavy_sets T.F_heavy_sets.kp T.b_heavy_sets (qa_cons (q_var 0) (qa_cons (q_call (ok_all_sides T) (hr.mono (by decide)) T.m_all_sides T.F_all_sides.kp T.b_all_sides (qa_cons (q_var 2) qa_nil)) qa_nil)))) rfl ⟨_, fun _ _ _ _ _ => pg_name (i := 3) nd rfl (by first | exact Or.inl rfl | exact Or.inr rfl), g_name 3⟩ (fun _ _ _ _ _ => (qts_one (qt_val (q_call (ok_is_light T) (hr.mono (by decide)) T.m_is_light T.F_is_light.kp T.b_is_light (qa_cons (q_var 1) (qa_cons (q_var 3) qa_nil)))))) (fun _ _ _ _ _ => (q_var 3))))))) b_gains
theorem sc_compare : FnScope N_compare P_compare (defScope s_compare) := ⟨rfl, rfl, rfl, by decide +kernel, rfl, by decide +kernel, by decide +kernel⟩
theorem ok_compare (T : Txt K mg base Θ) : FnOk P w K mg base CX0 9 T.a_compare T.d_compare P_compare (spOf K ⟨mg, w, Θ⟩ c_compare) := by
  have nd := (sc_compare).nd
  exact fn_pd (k := 8) (t := t_compare) T.F_compare sc_compare l_compare (fun cdv A outer s H E hr => (qss_cons (qs_set 2 nd (q_call (ok_first_least T) (hr.mono (by decide)) T.m_first_least T.F_first_least.kp T.b_first_least (qa_cons (q_call (ok_gains T) (hr.mono (by decide)) T.m_gains T.F_gains.kp T.b_gains (qa_cons (q_data (q_lst (qa_cons (q_var 0) qa_nil))) (qa_cons (q_var 1) (qa_cons (q_meth0 T.C_Council T.cl_Council T.m_Council_width (ok_Council_width T) (hr.mono (by decide)) T.b_Council_width (q_var 0)) qa_nil)))) qa_nil)))
  (qss_cons (qs_if (qt_notN (q_var 2) q_non) (qss_one (qs_ret (q_tup (qa_cons q_str (qa_cons (q_var 2) qa_nil))))) qss_nil)
  (qss_cons (qs_set 3 nd (q_cell (q_lst qa_nil)))
  (qss_cons (qs_for PassesOwn.never rfl (qi_seq (q_call (ok_heavy_sets T) (hr.mono (by decide)) T.m_heavy_sets T.F_heavy_sets.kp T.b_heavy_sets (qa_cons (q_data (q_lst (qa_cons (q_var 0) qa_nil))) (qa_cons (q_call (ok_all_sides T) (hr.mono (by decide)) T.m_all_sides T.F_all_sides.kp T.b_all_sides (qa_cons (q_meth0 T.C_Council T.cl_Council T.m_Council_width (ok_Council_width T) (hr.mono (by decide)) T.b_Council_width (q_var 0)) qa_nil)) qa_nil)))) (qg_name 4 nd)
  (qss_cons (qs_set 5 nd (q_ix (q_data (q_comp [("at", 6), ("other", 7)] rfl nd (qi_enum T.z_enumerate (qa_cons (q_var 1) qa_nil)) rfl ⟨_, fun _ _ _ _ _ => (pg_tup rfl (pgs_cons (pg_name (i := 6) nd rfl (by first | exact Or.inl rfl | exact Or.inr rfl)) (pgs_cons (pg_name (i := 7) nd rfl (by first | exact Or.inl rfl | exact Or.inr rfl)) pgs_nil))), (g_tup (gs_cons (g_name 6) (gs_cons (g_name 7) gs_nil)))⟩ (fun _ _ _ _ _ => (qts_one (qt_not (qt_val (q_call (ok_is_light T) (hr.mono (by decide)) T.m_is_light T.F_is_light.kp T.b_is_light (qa_cons (q_data (q_lst (qa_cons (q_var 7) qa_nil))) (qa_cons (q_var 4) qa_nil))))))) (fun _ _ _ _ _ => (q_var 6)))) q_int))
  (qss_one (qs_expr (q_append (q_var 3) (q_tup (qa_cons (q_var 4) (qa_cons (q_var 5) qa_nil))))))))
  (qss_frz 3 (qss_one (qs_ret (q_tup (qa_cons q_str (qa_cons (q_var 3) qa_nil))))))))))) b_compare
theorem sc_index_lists : FnScope N_index_lists P_index_lists (defScope s_index_lists) := ⟨rfl, rfl, rfl, by decide +kernel, rfl, by decide +kernel, by decide +kernel⟩
theorem ok_index_lists (T : Txt K mg base Θ) : FnOk P w K mg base CX0 1 T.a_index_lists T.d_index_lists P_index_lists (spOf K ⟨mg, w, Θ⟩ c_index_lists) := by
  have nd := (sc_index_lists).nd
  exact fn_pd (k := 0) (t := t_index_lists) T.F_index_lists sc_index_lists l_index_lists (fun cdv A outer s H E hr => (qss_cons (qs_set 2 nd (q_data (q_lst (qa_cons (q_data (q_lst qa_nil)) qa_nil))))
  (qss_cons (qs_for PassesOwn.never rfl (qi_rng1 T.z_range (qa_cons (q_var 1) qa_nil)) (qg_name 3 nd)
  (qss_cons (qs_set 4 nd (q_cell (q_lst qa_nil)))
  (qss_cons (qs_for PassesOwn.never rfl (qi_seq (q_var 2)) (qg_name 5 nd)
  (qss_cons (qs_set 6 nd (q_ifExp (qt_ne hr (q_var 5) (q_data (q_lst qa_nil))) (q_add (q_ix (q_var 5) (q_neg q_int)) q_int) q_int))
  (qss_one (qs_expr (q_extend (q_var 4) (q_data (q_comp [("index", 7)] rfl nd (qi_rng2 T.z_range (qa_cons (q_var 6) (qa_cons (q_var 0) qa_nil))) rfl ⟨_, fun _ _ _ _ _ => pg_name (i := 7) nd rfl (by first | exact Or.inl rfl | exact Or.inr rfl), g_name 7⟩ (fun _ _ _ _ _ => qts_nil) (fun _ _ _ _ _ => (q_add (q_var 5) (q_data (q_lst (qa_cons (q_var 7) qa_nil))))))))))))
  (qss_frz 4 (qss_one (qs_set 2 nd (q_var 4)))))))
  (qss_one (qs_ret (q_var 2)))))) b_index_lists
theorem sc_fewest : FnScope N_fewest P_fewest (defScope s_fewest) := ⟨rfl, rfl, rfl, by decide +kernel, rfl, by decide +kernel, by decide +kernel⟩
theorem ok_fewest (T : Txt K mg base Θ) : FnOk P w K mg base CX0 7 T.a_fewest T.d_fewest P_fewest (spOf K ⟨mg, w, Θ⟩ c_fewest) := by
  have nd := (sc_fewest).nd
  exact fn_pd (k := 6) (t := t_fewest) T.F_fewest sc_fewest l_fewest (fun cdv A outer s H E hr => (qss_cons (qs_set 1 nd (q_call (ok_all_sides T) (hr.mono (by decide)) T.m_all_sides T.F_all_sides.kp T.b_all_sides (qa_cons (q_meth0 T.C_Council T.cl_Council T.m_Council_width (ok_Council_width T) (hr.mono (by decide)) T.b_Council_width (q_ix (q_var 0) q_int)) qa_nil)))
  (qss_cons (qs_set 2 nd (q_data (q_comp [("council", 3)] rfl nd (qi_seq (q_var 0)) rfl ⟨_, fun _ _ _ _ _ => pg_name (i := 3) nd rfl (by first | exact Or.inl rfl | exact Or.inr rfl), g_name 3⟩ (fun _ _ _ _ _ => qts_nil) (fun _ _ _ _ _ => (q_call (ok_heavy_table T) (hr.mono (by decide)) T.m_heavy_table T.F_heavy_table.kp T.b_heavy_table (qa_cons (q_data (q_lst (qa_cons (q_var 3) qa_nil))) (qa_cons (q_var 1) qa_nil)))))))
  (qss_cons (qs_set 4 nd (q_call (ok_heavy_table T) (hr.mono (by decide)) T.m_heavy_table T.F_heavy_table.kp T.b_heavy_table (qa_cons (q_var 0) (qa_cons (q_var 1) qa_nil))))
  (qss_cons (qs_for PassesOwn.never rfl (qi_rng1 T.z_range (qa_cons (q_add (q_len T.z_len (qa_cons (q_var 0) qa_nil)) q_int) qa_nil)) (qg_name 5 nd)
  (qss_cons (qs_set 6 nd (q_cell (q_lst qa_nil)))
  (qss_cons (qs_for PassesOwn.never rfl (qi_seq (q_call (ok_index_lists T) (hr.mono (by decide)) T.m_index_lists T.F_index_lists.kp T.b_index_lists (qa_cons (q_len T.z_len (qa_cons (q_var 0) qa_nil)) (qa_cons (q_var 5) qa_nil)))) (qg_name 7 nd)
  (qss_cons (qs_asgL (qs_setComp 8 [("mask", 10)] rfl nd (qi_rng1 T.z_range (qa_cons (q_len T.z_len (qa_cons (q_var 4) qa_nil)) qa_nil)) rfl ⟨_, fun _ _ _ _ _ => pg_name (i := 10) nd rfl (by first | exact Or.inl rfl | exact Or.inr rfl), g_name 10⟩ (fun _ _ _ _ _ => qts_nil) (fun _ _ _ _ _ => (q_any rfl T.z_any (qa_cons (q_data (q_comp [("index", 9)] rfl nd (qi_seq (q_var 7)) rfl ⟨_, fun _ _ _ _ _ => pg_name (i := 9) nd rfl (by first | exact Or.inl rfl | exact Or.inr rfl), g_name 9⟩ (fun _ _ _ _ _ => qts_nil) (fun _ _ _ _ _ => (q_ix (q_ix (q_var 2) (q_var 9)) (q_var 10))))) qa_nil))) (sw_true rfl rfl rfl (by decide +kernel))))
  (qss_one (qs_if (qt_eq hr (q_var 8) (q_var 4)) (qss_one (qs_expr (q_append (q_var 6) (q_var 7)))) qss_nil))))
  (qss_frz 6 (qss_one (qs_if (qt_ne hr (q_var 6) (q_data (q_lst qa_nil))) (qss_one (qs_ret (q_var 6))) qss_nil))))))
  (qss_one (qs_ret (q_data (q_lst qa_nil))))))))) b_fewest
theorem sc_law_bag : FnScope N_law_bag P_law_bag (defScope s_law_bag) := ⟨rfl, rfl, rfl, by decide +kernel, rfl, by decide +kernel, by decide +kernel⟩
theorem ok_law_bag (T : Txt K mg base Θ) : FnOk P w K mg base CX0 1 T.a_law_bag T.d_law_bag P_law_bag (spOf K ⟨mg, w, Θ⟩ c_law_bag) := by
  have nd := (sc_law_bag).nd
  exact fn_pd (k := 0) (t := t_law_bag) T.F_law_bag sc_law_bag l_law_bag (fun cdv A outer s H E hr => (qss_one (qs_ret (q_cell (q_lst (qa_cons q_int (qa_cons q_int (qa_cons q_int (qa_cons (q_data (q_comp [("cell", 1)] rfl nd (qi_seq (q_slice (q_var 0) qo_none (qo_some q_int))) rfl ⟨_, fun _ _ _ _ _ => pg_name (i := 1) nd rfl (by first | exact Or.inl rfl | exact Or.inr rfl), g_name 1⟩ (fun _ _ _ _ _ => qts_nil) (fun _ _ _ _ _ => (q_abs T.z_abs (qa_cons (q_var 1) qa_nil))))) qa_nil))))))))) b_law_bag
theorem sc_law_take : FnScope N_law_take P_law_take (defScope s_law_take) := ⟨rfl, rfl, rfl, by decide +kernel, rfl, by decide +kernel, by decide +kernel⟩
theorem ok_law_take (T : Txt K mg base Θ) : FnOk P w K mg base CX0 1 T.a_law_take T.d_law_take P_law_take (spOf K ⟨mg, w, Θ⟩ c_law_take) := by
  have nd := (sc_law_take).nd
  exact fn_pd (k := 0) (t := t_law_take) T.F_law_take sc_law_take l_law_take (fun cdv A outer s H E hr => (qss_cons (qs_if (qt_eq hr (q_ix (q_var 0) q_int) q_int) (qss_cons (qs_set 2 nd q_int)
  (qss_cons (qs_if (qt_lt (q_ix (q_var 0) q_int) (q_len T.z_len (qa_cons (q_ix (q_var 0) q_int) qa_nil))) (qss_one (qs_set 2 nd (q_ix (q_ix (q_var 0) q_int) (q_ix (q_var 0) q_int)))) qss_nil)
  (qss_cons (qs_augS (q_var 0) q_int q_int ip_add op2_ipI)
  (qss_cons (qs_if (qt_ge (q_var 2) q_int) (qss_one (qs_asg (q_var 2) (qg_sub (q_var 0) q_int))) qss_nil)
  (qss_one (qs_asg (q_mod (q_add (q_add (q_mul (q_ix (q_var 0) q_int) q_int) (q_mod (q_var 2) q_int)) (q_mul q_int (q_ix (q_var 0) q_int))) q_int) (qg_sub (q_var 0) q_int))))))) qss_nil)
  (qss_cons (qs_if (qt_gt (q_ix (q_var 0) q_int) q_int) (qss_cons (qs_set 3 nd (q_mod (q_ix (q_var 0) q_int) (q_var 1)))
  (qss_cons (qs_asg (q_div (q_ix (q_var 0) q_int) (q_var 1)) (qg_sub (q_var 0) q_int))
  (qss_one (qs_ret (q_var 3))))) qss_nil)
  (qss_cons (qs_set 4 nd (q_mod (q_mul (q_add (q_ix (q_var 0) q_int) q_int) q_int) q_int))
  (qss_cons (qs_set 5 nd (q_mod (q_mul (q_mod (q_mul (q_var 4) (q_var 4)) q_int) q_int) q_int))
  (qss_cons (qs_if (qt_gt (q_var 1) q_int) (qss_one (qs_ret (q_mod (q_add (q_mul (q_var 5) q_int) (q_var 4)) (q_var 1)))) qss_nil)
  (qss_one (qs_ret (q_mod (q_div (q_var 5) q_int) (q_var 1)))))))))) b_law_take
theorem sc_law_council : FnScope N_law_council P_law_council (defScope s_law_council) := ⟨rfl, rfl, rfl, by decide +kernel, rfl, by decide +kernel, by decide +kernel⟩
theorem ok_law_council (T : Txt K mg base Θ) : FnOk P w K mg base CX0 2 T.a_law_council T.d_law_council P_law_council (spOf K ⟨mg, w, Θ⟩ c_law_council) := by
  have nd := (sc_law_council).nd
  exact fn_pd (k := 1) (t := t_law_council) T.F_law_council sc_law_council l_law_council (fun cdv A outer s H E hr => (qss_cons (qs_asg (q_tup (qa_cons (q_add q_int (q_call (ok_law_take T) (hr.mono (by decide)) T.m_law_take T.F_law_take.kp T.b_law_take (qa_cons (q_var 0) (qa_cons (q_sub (q_var 2) q_int) qa_nil)))) (qa_cons (q_call (ok_law_take T) (hr.mono (by decide)) T.m_law_take T.F_law_take.kp T.b_law_take (qa_cons (q_var 0) (qa_cons q_int qa_nil))) qa_nil))) (qg_tup rfl (qgs_cons (qg_name 3 nd) (qgs_cons (qg_name 4 nd) qgs_nil))))
  (qss_cons (qs_asgL (qs_setComp 5 [("k", 6)] rfl nd (qi_rng1 T.z_range (qa_cons (q_var 3) qa_nil)) rfl ⟨_, fun _ _ _ _ _ => pg_name (i := 6) nd rfl (by first | exact Or.inl rfl | exact Or.inr rfl), g_name 6⟩ (fun _ _ _ _ _ => qts_nil) (fun _ _ _ _ _ => (q_add q_int (q_call (ok_law_take T) (hr.mono (by decide)) T.m_law_take T.F_law_take.kp T.b_law_take (qa_cons (q_var 0) (qa_cons (q_ix (q_data (q_lst (qa_cons q_int (qa_cons q_int (qa_cons q_int (qa_cons q_int (qa_cons q_int qa_nil))))))) (q_var 4)) qa_nil))))) (sw_true rfl rfl rfl (by decide +kernel))))
  (qss_cons (qs_set 7 nd (q_sum rfl T.z_sum (qa_cons (q_var 5) qa_nil)))
  (qss_cons (qs_set 8 nd (q_cell (q_lst qa_nil)))
  (qss_cons (qs_for PassesOwn.never rfl (qi_rng1 T.z_range (qa_cons (q_var 1) qa_nil)) (qg_name 9 nd)
  (qss_cons (qs_set 10 nd (q_data (q_lst (qa_cons (q_add (q_div (q_var 7) q_int) q_int) (qa_cons (q_add q_int (q_call (ok_law_take T) (hr.mono (by decide)) T.m_law_take T.F_law_take.kp T.b_law_take (qa_cons (q_var 0) (qa_cons (q_var 7) qa_nil)))) (qa_cons q_int (qa_cons (q_var 7) qa_nil)))))))
  (qss_one (qs_expr (q_append (q_var 8) (q_ix (q_var 10) (q_mul (q_max rfl T.z_max (qa_cons q_int (qa_cons (q_sub (q_call (ok_law_take T) (hr.mono (by decide)) T.m_law_take T.F_law_take.kp T.b_law_take (qa_cons (q_var 0) (qa_cons q_int qa_nil))) q_int) qa_nil))) (q_intC T.z_int (qa_cons (q_gt (q_var 4) q_int) qa_nil)))))))))
  (qss_frz 8 (qss_one (qs_ret (q_tup (qa_cons (q_var 5) (qa_cons (q_var 8) qa_nil)))))))))))) b_law_council
theorem sc_same_power : FnScope N_same_power P_same_power (defScope s_same_power) := ⟨rfl, rfl, rfl, by decide +kernel, rfl, by decide +kernel, by decide +kernel⟩
theorem ok_same_power (T : Txt K mg base Θ) : FnOk P w K mg base CX0 9 T.a_same_power T.d_same_power P_same_power (spOf K ⟨mg, w, Θ⟩ c_same_power) := by
  have nd := (sc_same_power).nd
  exact fn_pd (k := 8) (t := t_same_power) T.F_same_power sc_same_power l_same_power (fun cdv A outer s H E hr => (qss_cons (qs_set 2 nd (q_meth0 T.C_Council T.cl_Council T.m_Council_width (ok_Council_width T) (hr.mono (by decide)) T.b_Council_width (q_ix (q_add (q_var 0) (q_var 1)) q_int)))
  (qss_cons (qs_for PassesOwn.never rfl (qi_enum T.z_enumerate (qa_cons (q_data (q_lst (qa_cons (q_tup (qa_cons (q_var 0) (qa_cons (q_var 1) qa_nil))) (qa_cons (q_tup (qa_cons (q_var 1) (qa_cons (q_var 0) qa_nil))) qa_nil)))) qa_nil)) (qg_tup rfl (qgs_cons (qg_name 3 nd) (qgs_cons (qg_name 4 nd) qgs_nil)))
  (qss_cons (qs_set 5 nd (q_call (ok_first_least T) (hr.mono (by decide)) T.m_first_least T.F_first_least.kp T.b_first_least (qa_cons (q_call (ok_gains T) (hr.mono (by decide)) T.m_gains T.F_gains.kp T.b_gains (qa_cons (q_ix (q_var 4) q_int) (qa_cons (q_ix (q_var 4) q_int) (qa_cons (q_var 2) qa_nil)))) qa_nil)))
  (qss_one (qs_if (qt_notN (q_var 5) q_non) (qss_one (qs_ret (q_tup (qa_cons (q_var 3) (qa_cons (q_var 5) qa_nil))))) qss_nil))))
  (qss_one (qs_ret q_non))))) b_same_power
theorem sc_law_ends_right : FnScope N_law_ends_right P_law_ends_right (defScope s_law_ends_right) := ⟨rfl, rfl, rfl, by decide +kernel, rfl, by decide +kernel, by decide +kernel⟩
theorem ok_law_ends_right (T : Txt K mg base Θ) : FnOk P w K mg base CX0 10 T.a_law_ends_right T.d_law_ends_right P_law_ends_right (spOf K ⟨mg, w, Θ⟩ c_law_ends_right) := by
  have nd := (sc_law_ends_right).nd
  exact fn_pd (k := 9) (t := t_law_ends_right) T.F_law_ends_right sc_law_ends_right l_law_ends_right (fun cdv A outer s H E hr => (qss_cons (qs_par 2 3 rfl nd (qa_cons (q_frz (q_make T.C_Council T.mk_Council (ok_Council_init T) (hr.mono (by decide)) T.b_Council_init (qa_cons (q_data (q_lst (qa_cons q_int (qa_cons q_int qa_nil)))) (qa_cons (q_mul (q_data (q_lst (qa_cons q_int qa_nil))) (q_var 1)) qa_nil)))) (qa_cons (q_frz (q_make T.C_Council T.mk_Council (ok_Council_init T) (hr.mono (by decide)) T.b_Council_init (qa_cons (q_data (q_lst (qa_cons q_int (qa_cons q_int qa_nil)))) (qa_cons (q_mul (q_data (q_lst (qa_cons q_int qa_nil))) (q_var 1)) qa_nil)))) qa_nil)))
  (qss_cons (qs_if (PW.pt (qw_or (qt_ne hr (q_ix (q_call (ok_compare T) (hr.mono (by decide)) T.m_compare T.F_compare.kp T.b_compare (qa_cons (q_var 0) (qa_cons (q_data (q_lst (qa_cons (q_var 3) (qa_cons (q_var 2) qa_nil)))) qa_nil))) q_int) q_str) (qw_or1 (qt_ne hr (q_ix (q_call (ok_compare T) (hr.mono (by decide)) T.m_compare T.F_compare.kp T.b_compare (qa_cons (q_var 3) (qa_cons (q_data (q_lst (qa_cons (q_var 3) qa_nil))) qa_nil))) q_int) q_str)))) (qss_one (qs_ret q_bl)) qss_nil)
  (qss_cons (qs_if (qt_eq hr (q_var 1) q_int) (qss_one (qs_ret (q_and (q_eq hr (q_call (ok_compare T) (hr.mono (by decide)) T.m_compare T.F_compare.kp T.b_compare (qa_cons (q_var 2) (qa_cons (q_data (q_lst qa_nil)) qa_nil))) (q_tup (qa_cons q_str (qa_cons (q_data (q_lst qa_nil)) qa_nil)))) (q_and1 (q_isN (q_call (ok_same_power T) (hr.mono (by decide)) T.m_same_power T.F_same_power.kp T.b_same_power (qa_cons (q_data (q_lst (qa_cons (q_var 2) qa_nil))) (qa_cons (q_data (q_lst (qa_cons (q_var 3) (qa_cons (q_var 0) qa_nil)))) qa_nil))) q_non))))) qss_nil)
  (qss_cons (qs_if (qt_ne hr (q_call (ok_compare T) (hr.mono (by decide)) T.m_compare T.F_compare.kp T.b_compare (qa_cons (q_var 2) (qa_cons (q_data (q_lst (qa_cons (q_var 3) qa_nil))) qa_nil))) (q_tup (qa_cons q_str (qa_cons (q_data (q_lst (qa_cons (q_tup (qa_cons q_int (qa_cons q_str qa_nil))) (qa_cons (q_tup (qa_cons q_int (qa_cons q_str qa_nil))) qa_nil)))) qa_nil)))) (qss_one (qs_ret q_bl)) qss_nil)
  (qss_one (qs_ret (q_eq hr (q_call (ok_compare T) (hr.mono (by decide)) T.m_compare T.F_compare.kp T.b_compare (qa_cons (q_var 3) (qa_cons (q_data (q_lst (qa_cons (q_var 2) qa_nil))) qa_nil))) (q_tup (qa_cons q_str (qa_cons (q_data (q_lst (qa_cons (q_tup (qa_cons q_int (qa_cons q_str qa_nil))) (qa_cons (q_tup (qa_cons q_int (qa_cons q_str qa_nil))) qa_nil)))) qa_nil))))))))))) b_law_ends_right
theorem sc_law_half : FnScope N_law_half P_law_half (defScope s_law_half) := ⟨rfl, rfl, rfl, by decide +kernel, rfl, by decide +kernel, by decide +kernel⟩
theorem ok_law_half (T : Txt K mg base Θ) : FnOk P w K mg base CX0 6 T.a_law_half T.d_law_half P_law_half (spOf K ⟨mg, w, Θ⟩ c_law_half) := by
  have nd := (sc_law_half).nd
  exact fn_pd (k := 5) (t := t_law_half) T.F_law_half sc_law_half l_law_half (fun cdv A outer s H E hr => (qss_one (qs_ret (q_frz (q_make T.C_Council T.mk_Council (ok_Council_init T) (hr.mono (by decide)) T.b_Council_init (qa_cons (q_mul (q_data (q_lst (qa_cons (q_var 1) qa_nil))) (q_var 0)) (qa_cons (q_mul (q_data (q_lst (qa_cons (q_div (q_mul (q_var 1) (q_add (q_var 0) q_int)) q_int) qa_nil))) (q_var 2)) qa_nil))))))) b_law_half
theorem sc_law : FnScope N_law P_law (defScope s_law) := ⟨rfl, rfl, rfl, by decide +kernel, rfl, by decide +kernel, by decide +kernel⟩
theorem ok_law (T : Txt K mg base Θ) : FnOk P w K mg base CX0 11 T.a_law T.d_law P_law (spOf K ⟨mg, w, Θ⟩ c_law) := by
  have nd := (sc_law).nd
  exact fn_pd (k := 10) (t := t_law) T.F_law sc_law l_law (fun cdv A outer s H E hr => (qss_cons (qs_set 1 nd (q_call (ok_law_bag T) (hr.mono (by decide)) T.m_law_bag T.F_law_bag.kp T.b_law_bag (qa_cons (q_var 0) qa_nil)))
  (qss_cons (qs_for PassesOwn.never rfl (qi_rng1 T.z_range (qa_cons q_int qa_nil)) (qg_name 2 nd)
  (qss_cons (qs_set 3 nd (q_add q_int (q_call (ok_law_take T) (hr.mono (by decide)) T.m_law_take T.F_law_take.kp T.b_law_take (qa_cons (q_var 1) (qa_cons q_int qa_nil)))))
  (qss_cons (qs_set 4 nd (q_ix (q_call (ok_law_council T) (hr.mono (by decide)) T.m_law_council T.F_law_council.kp T.b_law_council (qa_cons (q_var 1) (qa_cons q_int (qa_cons q_int qa_nil)))) q_int))
  (qss_cons (qs_set 5 nd (q_frz (q_make T.C_Council T.mk_Council (ok_Council_init T) (hr.mono (by decide)) T.b_Council_init (qa_cons (q_var 4) (qa_cons (q_mul (q_data (q_lst (qa_cons (q_add q_int (q_call (ok_law_take T) (hr.mono (by decide)) T.m_law_take T.F_law_take.kp T.b_law_take (qa_cons (q_var 1) (qa_cons (q_sum rfl T.z_sum (qa_cons (q_var 4) qa_nil)) qa_nil)))) qa_nil))) (q_var 3)) qa_nil)))))
  (qss_cons (qs_if (qt_not (qt_val (q_call (ok_law_ends_right T) (hr.mono (by decide)) T.m_law_ends_right T.F_law_ends_right.kp T.b_law_ends_right (qa_cons (q_var 5) (qa_cons (q_var 3) qa_nil))))) (qss_one (qs_ret q_bl)) qss_nil)
  (qss_cons (qs_asgL (qs_setComp 6 [("one", 7)] rfl nd (qi_rng1 T.z_range (qa_cons q_int qa_nil)) rfl ⟨_, fun _ _ _ _ _ => pg_name (i := 7) nd rfl (by first | exact Or.inl rfl | exact Or.inr rfl), g_name 7⟩ (fun _ _ _ _ _ => qts_nil) (fun _ _ _ _ _ => (q_call (ok_law_half T) (hr.mono (by decide)) T.m_law_half T.F_law_half.kp T.b_law_half (qa_cons (q_ix (q_data (q_lst (qa_cons q_int (qa_cons q_int (qa_cons q_int qa_nil))))) (q_call (ok_law_take T) (hr.mono (by decide)) T.m_law_take T.F_law_take.kp T.b_law_take (qa_cons (q_var 1) (qa_cons q_int qa_nil)))) (qa_cons (q_add q_int (q_call (ok_law_take T) (hr.mono (by decide)) T.m_law_take T.F_law_take.kp T.b_law_take (qa_cons (q_var 1) (qa_cons q_int qa_nil)))) (qa_cons (q_var 3) qa_nil))))) (sw_true rfl rfl rfl (by decide +kernel))))
  (qss_cons (qs_if (PW.pt (qw_or (qt_notN (q_call (ok_same_power T) (hr.mono (by decide)) T.m_same_power T.F_same_power.kp T.b_same_power (qa_cons (q_slice (q_var 6) qo_none (qo_some q_int)) (qa_cons (q_slice (q_var 6) (qo_some q_int) qo_none) qa_nil))) q_non) (qw_or1 (qt_ne hr (q_ix (q_call (ok_compare T) (hr.mono (by decide)) T.m_compare T.F_compare.kp T.b_compare (qa_cons (q_ix (q_var 6) q_int) (qa_cons (q_slice (q_var 6) (qo_some q_int) qo_none) qa_nil))) q_int) q_str)))) (qss_one (qs_ret q_bl)) qss_nil)
  (qss_cons (qs_if (PW.pt (qw_or (PW.pt (qw_and (qt_gt (q_var 3) q_int) (qw_and1 (qt_ne hr (q_call (ok_fewest T) (hr.mono (by decide)) T.m_fewest T.F_fewest.kp T.b_fewest (qa_cons (q_var 6) qa_nil)) (q_data (q_lst (qa_cons (q_data (q_lst (qa_cons q_int qa_nil))) (qa_cons (q_data (q_lst (qa_cons q_int qa_nil))) (qa_cons (q_data (q_lst (qa_cons q_int qa_nil))) qa_nil))))))))) (qw_or1 (PW.pt (qw_and (qt_eq hr (q_var 3) q_int) (qw_and1 (qt_ne hr (q_call (ok_fewest T) (hr.mono (by decide)) T.m_fewest T.F_fewest.kp T.b_fewest (qa_cons (q_var 6) qa_nil)) (q_data (q_lst (qa_cons (q_data (q_lst qa_nil)) qa_nil)))))))))) (qss_one (qs_ret q_bl)) qss_nil)
  (qss_cons (qs_set 8 nd (q_data (q_lst (qa_cons (q_var 5) (qa_cons (q_meth0 T.C_Council T.cl_Council T.m_Council_mirrored (ok_Council_mirrored T) (hr.mono (by decide)) T.b_Council_mirrored (q_var 5)) qa_nil)))))
  (qss_one (qs_if (qt_ne hr (q_isN (q_call (ok_same_power T) (hr.mono (by decide)) T.m_same_power T.F_same_power.kp T.b_same_power (qa_cons (q_var 8) (qa_cons (q_slice (q_var 8) qo_none (qo_some q_int)) qa_nil))) q_non) (q_and (q_lt (q_len T.z_len (qa_cons (q_ix (q_call (ok_fewest T) (hr.mono (by decide)) T.m_fewest T.F_fewest.kp T.b_fewest (qa_cons (q_var 8) qa_nil)) q_int) qa_nil)) q_int) (q_and1 (q_ne hr (q_data (q_lst (qa_cons q_int qa_nil))) (q_ix (q_call (ok_fewest T) (hr.mono (by decide)) T.m_fewest T.F_fewest.kp T.b_fewest (qa_cons (q_var 8) qa_nil)) q_int))))) (qss_one (qs_ret q_bl)) qss_nil)))))))))))
  (qss_one (qs_ret q_bl))))) b_law
end
theorem all_mk {l : PySem.W.OpenLaw} {w : World} {K : Frag} {h : Heap} {mg : Str → Option Value} {fa f0 f1 f2 f3 f4 f5 f6 f7 f8 f9 f10 f11 f12 f13 f14 f15 f16 f17 f18 f19 f20 f21 f22 f23 f24 f25 f26 f27 f28 f29 f30 f31 f32 f33 f34 f35 f36 C0 C1 : Addr} (X : K.In h) (G : h.Ns mainGlobals mg) (hfa : mg "law" = some (.ref fa))
    {od0 an0 od1 an1 od2 an2 od3 an3 od4 an4 od5 an5 od6 an6 od7 an7 od8 an8 od9 an9 od10 an10 od11 an11 od12 an12 od13 an13 od14 an14 od15 an15 od16 an16 od17 an17 od18 an18 od19 an19 od20 an20 od21 an21 od22 an22 od23 an23 od24 an24 od25 an25 od26 an26 od27 an27 od28 an28 od29 an29 od30 an30 od31 an31 od32 an32 od33 an33 od34 an34 od35 an35 od36 an36 : Option Addr} {sl0 sl1 sl2 sl3 sl4 sl5 sl6 sl7 sl8 sl9 sl10 sl11 sl12 sl13 sl14 sl15 sl16 sl17 sl18 sl19 sl20 sl21 sl22 sl23 sl24 sl25 sl26 sl27 sl28 sl29 sl30 sl31 sl32 sl33 sl34 sl35 sl36 : Array (Option Value)} {oc0 kV0 dc0 pm0 cd0 ct0 oc1 kV1 dc1 pm1 cd1 ct1 oc2 kV2 dc2 pm2 cd2 ct2 oc3 kV3 dc3 pm3 cd3 ct3 oc4 kV4 dc4 pm4 cd4 ct4 oc5 kV5 dc5 pm5 cd5 ct5 oc6 kV6 dc6 pm6 cd6 ct6 oc7 kV7 dc7 pm7 cd7 ct7 oc8 kV8 dc8 pm8 cd8 ct8 oc9 kV9 dc9 pm9 ct9 oc10 kV10 dc10 pm10 cd10 ct10 oc11 kV11 dc11 pm11 cd11 ct11 oc12 kV12 dc12 pm12 cd12 ct12 oc13 kV13 dc13 pm13 cd13 ct13 oc14 kV14 dc14 pm14 cd14 ct14 oc15 kV15 dc15 pm15 cd15 ct15 oc16 kV16 dc16 pm16 cd16 ct16 oc17 kV17 dc17 pm17 cd17 ct17 oc18 kV18 dc18 pm18 cd18 ct18 oc19 kV19 dc19 pm19 cd19 ct19 oc20 kV20 dc20 pm20 cd20 ct20 oc21 kV21 dc21 pm21 cd21 ct21 oc22 kV22 dc22 pm22 cd22 ct22 oc23 kV23 dc23 pm23 cd23 ct23 oc24 kV24 dc24 pm24 cd24 ct24 oc25 kV25 dc25 pm25 cd25 ct25 oc26 kV26 dc26 pm26 cd26 ct26 oc27 kV27 dc27 pm27 cd27 ct27 oc28 kV28 dc28 pm28 cd28 ct28 oc29 kV29 dc29 pm29 cd29 ct29 oc30 kV30 dc30 pm30 cd30 ct30 oc31 kV31 dc31 pm31 cd31 ct31 oc32 kV32 dc32 pm32 cd32 ct32 oc33 kV33 dc33 pm33 cd33 ct33 oc34 kV34 dc34 pm34 cd34 ct34 oc35 kV35 dc35 pm35 cd35 ct35 oc36 kV36 dc36 pm36 cd36 ct36 : Value}
    {tyc9 : Value} {ddc9 : Option Addr} {vsc9 : Array Value} {slc9 : Array (Option Value)}
    {cc9 PP9 : Addr} (TT : TabsOf K h ["first_least"])
    (aC0 : PySem.W.nsIn K mainGlobals "Council" = some (some (.ref C0)))
    (pg0 : PySem.W.plainGet K C0 Str.empty = true)
    (hd0 : PySem.W.hasDictIn K C0 = true)
    (po0 : PySem.W.plainOver K C0 = true)
    (sa0 : PySem.W.findIn K (.ref C0) "__setattr__" = some (some (.builtin "object.__setattr__")))
    (mk0 : PySem.W.makesIn K C0 = true)
    (kc0 : PySem.W.keepIn K (.ref C0) = true)
    (aC1 : PySem.W.nsIn K mainGlobals "Packer" = some (some (.ref C1)))
    (pg1 : PySem.W.plainGet K C1 Str.empty = true)
    (hd1 : PySem.W.hasDictIn K C1 = true)
    (po1 : PySem.W.plainOver K C1 = true)
    (sa1 : PySem.W.findIn K (.ref C1) "__setattr__" = some (some (.builtin "object.__setattr__")))
    (mk1 : PySem.W.makesIn K C1 = true)
    (kc1 : PySem.W.keepIn K (.ref C1) = true)
    (a0 : PySem.W.nsIn K mainGlobals "is_integer" = some (some (.ref f0)))
    (l0 : K.lookup f0 = some ⟨oc0, od0, .func (PySem.W.fnOf "is_integer" "is_integer" (defArgs s_is_integer) (defBody s_is_integer) (defScope s_is_integer) .none kV0 dc0 pm0 an0 cd0 ct0), sl0⟩)
    (c0 : PySem.W.codeIn K cd0 "is_integer" = true)
    (k0 : PySem.W.keepIn K (.ref f0) = true)
    (a1 : PySem.W.nsIn K mainGlobals "is_between" = some (some (.ref f1)))
    (l1 : K.lookup f1 = some ⟨oc1, od1, .func (PySem.W.fnOf "is_between" "is_between" (defArgs s_is_between) (defBody s_is_between) (defScope s_is_between) .none kV1 dc1 pm1 an1 cd1 ct1), sl1⟩)
    (c1 : PySem.W.codeIn K cd1 "is_between" = true)
    (k1 : PySem.W.keepIn K (.ref f1) = true)
    (a2 : PySem.W.nsIn K mainGlobals "are_quotas" = some (some (.ref f2)))
    (l2 : K.lookup f2 = some ⟨oc2, od2, .func (PySem.W.fnOf "are_quotas" "are_quotas" (defArgs s_are_quotas) (defBody s_are_quotas) (defScope s_are_quotas) .none kV2 dc2 pm2 an2 cd2 ct2), sl2⟩)
    (c2 : PySem.W.codeIn K cd2 "are_quotas" = true)
    (k2 : PySem.W.keepIn K (.ref f2) = true)
    (a3 : PySem.W.nsIn K mainGlobals "are_weights" = some (some (.ref f3)))
    (l3 : K.lookup f3 = some ⟨oc3, od3, .func (PySem.W.fnOf "are_weights" "are_weights" (defArgs s_are_weights) (defBody s_are_weights) (defScope s_are_weights) .none kV3 dc3 pm3 an3 cd3 ct3), sl3⟩)
    (c3 : PySem.W.codeIn K cd3 "are_weights" = true)
    (k3 : PySem.W.keepIn K (.ref f3) = true)
    (a4 : PySem.W.findIn K (.ref C0) "__init__" = some (some (.ref f4)))
    (i4 : PySem.W.isFn K (.ref f4) = true)
    (l4 : K.lookup f4 = some ⟨oc4, od4, .func (PySem.W.fnOf "__init__" "Council.__init__" (defArgs s_Council_init) (defBody s_Council_init) (defScope s_Council_init) .none kV4 dc4 pm4 an4 cd4 ct4), sl4⟩)
    (c4 : PySem.W.codeIn K cd4 "Council.__init__" = true)
    (k4 : PySem.W.keepIn K (.ref f4) = true)
    (a5 : PySem.W.findIn K (.ref C0) "total" = some (some (.ref f5)))
    (i5 : PySem.W.isFn K (.ref f5) = true)
    (l5 : K.lookup f5 = some ⟨oc5, od5, .func (PySem.W.fnOf "total" "Council.total" (defArgs s_Council_total) (defBody s_Council_total) (defScope s_Council_total) .none kV5 dc5 pm5 an5 cd5 ct5), sl5⟩)
    (c5 : PySem.W.codeIn K cd5 "Council.total" = true)
    (k5 : PySem.W.keepIn K (.ref f5) = true)
    (a6 : PySem.W.findIn K (.ref C0) "mirrored" = some (some (.ref f6)))
    (i6 : PySem.W.isFn K (.ref f6) = true)
    (l6 : K.lookup f6 = some ⟨oc6, od6, .func (PySem.W.fnOf "mirrored" "Council.mirrored" (defArgs s_Council_mirrored) (defBody s_Council_mirrored) (defScope s_Council_mirrored) .none kV6 dc6 pm6 an6 cd6 ct6), sl6⟩)
    (c6 : PySem.W.codeIn K cd6 "Council.mirrored" = true)
    (k6 : PySem.W.keepIn K (.ref f6) = true)
    (a7 : PySem.W.findIn K (.ref C0) "width" = some (some (.ref f7)))
    (i7 : PySem.W.isFn K (.ref f7) = true)
    (l7 : K.lookup f7 = some ⟨oc7, od7, .func (PySem.W.fnOf "width" "Council.width" (defArgs s_Council_width) (defBody s_Council_width) (defScope s_Council_width) .none kV7 dc7 pm7 an7 cd7 ct7), sl7⟩)
    (c7 : PySem.W.codeIn K cd7 "Council.width" = true)
    (k7 : PySem.W.keepIn K (.ref f7) = true)
    (a8 : PySem.W.nsIn K mainGlobals "all_sides" = some (some (.ref f8)))
    (l8 : K.lookup f8 = some ⟨oc8, od8, .func (PySem.W.fnOf "all_sides" "all_sides" (defArgs s_all_sides) (defBody s_all_sides) (defScope s_all_sides) .none kV8 dc8 pm8 an8 cd8 ct8), sl8⟩)
    (c8 : PySem.W.codeIn K cd8 "all_sides" = true)
    (k8 : PySem.W.keepIn K (.ref f8) = true)
    (a9 : PySem.W.nsIn K mainGlobals "first_least" = some (some (.ref f9)))
    (l9 : K.lookup f9 = some ⟨oc9, od9, .func (PySem.W.fnOf "first_least" "first_least" (defArgs s_first_least) (defBody s_first_least) (defScope s_first_least) .none kV9 dc9 pm9 an9 (.ref cc9) ct9), sl9⟩)
    (c9 : PySem.W.codeIn K (.ref cc9) "first_least" = true)
    (k9 : PySem.W.keepIn K (.ref f9) = true)
    (a10 : PySem.W.nsIn K mainGlobals "bits_of" = some (some (.ref f10)))
    (l10 : K.lookup f10 = some ⟨oc10, od10, .func (PySem.W.fnOf "bits_of" "bits_of" (defArgs s_bits_of) (defBody s_bits_of) (defScope s_bits_of) .none kV10 dc10 pm10 an10 cd10 ct10), sl10⟩)
    (c10 : PySem.W.codeIn K cd10 "bits_of" = true)
    (k10 : PySem.W.keepIn K (.ref f10) = true)
    (a11 : PySem.W.findIn K (.ref C0) "weights" = some (some (.ref f11)))
    (i11 : PySem.W.isFn K (.ref f11) = true)
    (l11 : K.lookup f11 = some ⟨oc11, od11, .func (PySem.W.fnOf "weights" "Council.weights" (defArgs s_Council_weights) (defBody s_Council_weights) (defScope s_Council_weights) .none kV11 dc11 pm11 an11 cd11 ct11), sl11⟩)
    (c11 : PySem.W.codeIn K cd11 "Council.weights" = true)
    (k11 : PySem.W.keepIn K (.ref f11) = true)
    (a12 : PySem.W.findIn K (.ref C1) "__init__" = some (some (.ref f12)))
    (i12 : PySem.W.isFn K (.ref f12) = true)
    (l12 : K.lookup f12 = some ⟨oc12, od12, .func (PySem.W.fnOf "__init__" "Packer.__init__" (defArgs s_Packer_init) (defBody s_Packer_init) (defScope s_Packer_init) .none kV12 dc12 pm12 an12 cd12 ct12), sl12⟩)
    (c12 : PySem.W.codeIn K cd12 "Packer.__init__" = true)
    (k12 : PySem.W.keepIn K (.ref f12) = true)
    (a13 : PySem.W.nsIn K mainGlobals "first_fit" = some (some (.ref f13)))
    (l13 : K.lookup f13 = some ⟨oc13, od13, .func (PySem.W.fnOf "first_fit" "first_fit" (defArgs s_first_fit) (defBody s_first_fit) (defScope s_first_fit) .none kV13 dc13 pm13 an13 cd13 ct13), sl13⟩)
    (c13 : PySem.W.codeIn K cd13 "first_fit" = true)
    (k13 : PySem.W.keepIn K (.ref f13) = true)
    (a14 : PySem.W.nsIn K mainGlobals "fits" = some (some (.ref f14)))
    (l14 : K.lookup f14 = some ⟨oc14, od14, .func (PySem.W.fnOf "fits" "fits" (defArgs s_fits) (defBody s_fits) (defScope s_fits) .none kV14 dc14 pm14 an14 cd14 ct14), sl14⟩)
    (c14 : PySem.W.codeIn K cd14 "fits" = true)
    (k14 : PySem.W.keepIn K (.ref f14) = true)
    (a15 : PySem.W.nsIn K mainGlobals "next_loads" = some (some (.ref f15)))
    (l15 : K.lookup f15 = some ⟨oc15, od15, .func (PySem.W.fnOf "next_loads" "next_loads" (defArgs s_next_loads) (defBody s_next_loads) (defScope s_next_loads) .none kV15 dc15 pm15 an15 cd15 ct15), sl15⟩)
    (c15 : PySem.W.codeIn K cd15 "next_loads" = true)
    (k15 : PySem.W.keepIn K (.ref f15) = true)
    (a16 : PySem.W.nsIn K mainGlobals "load_levels" = some (some (.ref f16)))
    (l16 : K.lookup f16 = some ⟨oc16, od16, .func (PySem.W.fnOf "load_levels" "load_levels" (defArgs s_load_levels) (defBody s_load_levels) (defScope s_load_levels) .none kV16 dc16 pm16 an16 cd16 ct16), sl16⟩)
    (c16 : PySem.W.codeIn K cd16 "load_levels" = true)
    (k16 : PySem.W.keepIn K (.ref f16) = true)
    (a17 : PySem.W.nsIn K mainGlobals "can_pack" = some (some (.ref f17)))
    (l17 : K.lookup f17 = some ⟨oc17, od17, .func (PySem.W.fnOf "can_pack" "can_pack" (defArgs s_can_pack) (defBody s_can_pack) (defScope s_can_pack) .none kV17 dc17 pm17 an17 cd17 ct17), sl17⟩)
    (c17 : PySem.W.codeIn K cd17 "can_pack" = true)
    (k17 : PySem.W.keepIn K (.ref f17) = true)
    (a18 : PySem.W.nsIn K mainGlobals "members" = some (some (.ref f18)))
    (l18 : K.lookup f18 = some ⟨oc18, od18, .func (PySem.W.fnOf "members" "members" (defArgs s_members) (defBody s_members) (defScope s_members) .none kV18 dc18 pm18 an18 cd18 ct18), sl18⟩)
    (c18 : PySem.W.codeIn K cd18 "members" = true)
    (k18 : PySem.W.keepIn K (.ref f18) = true)
    (a19 : PySem.W.findIn K (.ref C1) "is_heavy" = some (some (.ref f19)))
    (i19 : PySem.W.isFn K (.ref f19) = true)
    (l19 : K.lookup f19 = some ⟨oc19, od19, .func (PySem.W.fnOf "is_heavy" "Packer.is_heavy" (defArgs s_Packer_is_heavy) (defBody s_Packer_is_heavy) (defScope s_Packer_is_heavy) .none kV19 dc19 pm19 an19 cd19 ct19), sl19⟩)
    (c19 : PySem.W.codeIn K cd19 "Packer.is_heavy" = true)
    (k19 : PySem.W.keepIn K (.ref f19) = true)
    (a20 : PySem.W.nsIn K mainGlobals "heavy_masks" = some (some (.ref f20)))
    (l20 : K.lookup f20 = some ⟨oc20, od20, .func (PySem.W.fnOf "heavy_masks" "heavy_masks" (defArgs s_heavy_masks) (defBody s_heavy_masks) (defScope s_heavy_masks) .none kV20 dc20 pm20 an20 cd20 ct20), sl20⟩)
    (c20 : PySem.W.codeIn K cd20 "heavy_masks" = true)
    (k20 : PySem.W.keepIn K (.ref f20) = true)
    (a21 : PySem.W.findIn K (.ref C0) "allowance" = some (some (.ref f21)))
    (i21 : PySem.W.isFn K (.ref f21) = true)
    (l21 : K.lookup f21 = some ⟨oc21, od21, .func (PySem.W.fnOf "allowance" "Council.allowance" (defArgs s_Council_allowance) (defBody s_Council_allowance) (defScope s_Council_allowance) .none kV21 dc21 pm21 an21 cd21 ct21), sl21⟩)
    (c21 : PySem.W.codeIn K cd21 "Council.allowance" = true)
    (k21 : PySem.W.keepIn K (.ref f21) = true)
    (a22 : PySem.W.nsIn K mainGlobals "rooms_of" = some (some (.ref f22)))
    (l22 : K.lookup f22 = some ⟨oc22, od22, .func (PySem.W.fnOf "rooms_of" "rooms_of" (defArgs s_rooms_of) (defBody s_rooms_of) (defScope s_rooms_of) .none kV22 dc22 pm22 an22 cd22 ct22), sl22⟩)
    (c22 : PySem.W.codeIn K cd22 "rooms_of" = true)
    (k22 : PySem.W.keepIn K (.ref f22) = true)
    (a23 : PySem.W.nsIn K mainGlobals "heavy_table" = some (some (.ref f23)))
    (l23 : K.lookup f23 = some ⟨oc23, od23, .func (PySem.W.fnOf "heavy_table" "heavy_table" (defArgs s_heavy_table) (defBody s_heavy_table) (defScope s_heavy_table) .none kV23 dc23 pm23 an23 cd23 ct23), sl23⟩)
    (c23 : PySem.W.codeIn K cd23 "heavy_table" = true)
    (k23 : PySem.W.keepIn K (.ref f23) = true)
    (a24 : PySem.W.nsIn K mainGlobals "heavy_sets" = some (some (.ref f24)))
    (l24 : K.lookup f24 = some ⟨oc24, od24, .func (PySem.W.fnOf "heavy_sets" "heavy_sets" (defArgs s_heavy_sets) (defBody s_heavy_sets) (defScope s_heavy_sets) .none kV24 dc24 pm24 an24 cd24 ct24), sl24⟩)
    (c24 : PySem.W.codeIn K cd24 "heavy_sets" = true)
    (k24 : PySem.W.keepIn K (.ref f24) = true)
    (a25 : PySem.W.nsIn K mainGlobals "is_light" = some (some (.ref f25)))
    (l25 : K.lookup f25 = some ⟨oc25, od25, .func (PySem.W.fnOf "is_light" "is_light" (defArgs s_is_light) (defBody s_is_light) (defScope s_is_light) .none kV25 dc25 pm25 an25 cd25 ct25), sl25⟩)
    (c25 : PySem.W.codeIn K cd25 "is_light" = true)
    (k25 : PySem.W.keepIn K (.ref f25) = true)
    (a26 : PySem.W.nsIn K mainGlobals "gains" = some (some (.ref f26)))
    (l26 : K.lookup f26 = some ⟨oc26, od26, .func (PySem.W.fnOf "gains" "gains" (defArgs s_gains) (defBody s_gains) (defScope s_gains) .none kV26 dc26 pm26 an26 cd26 ct26), sl26⟩)
    (c26 : PySem.W.codeIn K cd26 "gains" = true)
    (k26 : PySem.W.keepIn K (.ref f26) = true)
    (a27 : PySem.W.nsIn K mainGlobals "compare" = some (some (.ref f27)))
    (l27 : K.lookup f27 = some ⟨oc27, od27, .func (PySem.W.fnOf "compare" "compare" (defArgs s_compare) (defBody s_compare) (defScope s_compare) .none kV27 dc27 pm27 an27 cd27 ct27), sl27⟩)
    (c27 : PySem.W.codeIn K cd27 "compare" = true)
    (k27 : PySem.W.keepIn K (.ref f27) = true)
    (a28 : PySem.W.nsIn K mainGlobals "index_lists" = some (some (.ref f28)))
    (l28 : K.lookup f28 = some ⟨oc28, od28, .func (PySem.W.fnOf "index_lists" "index_lists" (defArgs s_index_lists) (defBody s_index_lists) (defScope s_index_lists) .none kV28 dc28 pm28 an28 cd28 ct28), sl28⟩)
    (c28 : PySem.W.codeIn K cd28 "index_lists" = true)
    (k28 : PySem.W.keepIn K (.ref f28) = true)
    (a29 : PySem.W.nsIn K mainGlobals "fewest" = some (some (.ref f29)))
    (l29 : K.lookup f29 = some ⟨oc29, od29, .func (PySem.W.fnOf "fewest" "fewest" (defArgs s_fewest) (defBody s_fewest) (defScope s_fewest) .none kV29 dc29 pm29 an29 cd29 ct29), sl29⟩)
    (c29 : PySem.W.codeIn K cd29 "fewest" = true)
    (k29 : PySem.W.keepIn K (.ref f29) = true)
    (a30 : PySem.W.nsIn K mainGlobals "_law_bag" = some (some (.ref f30)))
    (l30 : K.lookup f30 = some ⟨oc30, od30, .func (PySem.W.fnOf "_law_bag" "_law_bag" (defArgs s_law_bag) (defBody s_law_bag) (defScope s_law_bag) .none kV30 dc30 pm30 an30 cd30 ct30), sl30⟩)
    (c30 : PySem.W.codeIn K cd30 "_law_bag" = true)
    (k30 : PySem.W.keepIn K (.ref f30) = true)
    (a31 : PySem.W.nsIn K mainGlobals "_law_take" = some (some (.ref f31)))
    (l31 : K.lookup f31 = some ⟨oc31, od31, .func (PySem.W.fnOf "_law_take" "_law_take" (defArgs s_law_take) (defBody s_law_take) (defScope s_law_take) .none kV31 dc31 pm31 an31 cd31 ct31), sl31⟩)
    (c31 : PySem.W.codeIn K cd31 "_law_take" = true)
    (k31 : PySem.W.keepIn K (.ref f31) = true)
    (a32 : PySem.W.nsIn K mainGlobals "_law_council" = some (some (.ref f32)))
    (l32 : K.lookup f32 = some ⟨oc32, od32, .func (PySem.W.fnOf "_law_council" "_law_council" (defArgs s_law_council) (defBody s_law_council) (defScope s_law_council) .none kV32 dc32 pm32 an32 cd32 ct32), sl32⟩)
    (c32 : PySem.W.codeIn K cd32 "_law_council" = true)
    (k32 : PySem.W.keepIn K (.ref f32) = true)
    (a33 : PySem.W.nsIn K mainGlobals "same_power" = some (some (.ref f33)))
    (l33 : K.lookup f33 = some ⟨oc33, od33, .func (PySem.W.fnOf "same_power" "same_power" (defArgs s_same_power) (defBody s_same_power) (defScope s_same_power) .none kV33 dc33 pm33 an33 cd33 ct33), sl33⟩)
    (c33 : PySem.W.codeIn K cd33 "same_power" = true)
    (k33 : PySem.W.keepIn K (.ref f33) = true)
    (a34 : PySem.W.nsIn K mainGlobals "_law_ends_right" = some (some (.ref f34)))
    (l34 : K.lookup f34 = some ⟨oc34, od34, .func (PySem.W.fnOf "_law_ends_right" "_law_ends_right" (defArgs s_law_ends_right) (defBody s_law_ends_right) (defScope s_law_ends_right) .none kV34 dc34 pm34 an34 cd34 ct34), sl34⟩)
    (c34 : PySem.W.codeIn K cd34 "_law_ends_right" = true)
    (k34 : PySem.W.keepIn K (.ref f34) = true)
    (a35 : PySem.W.nsIn K mainGlobals "_law_half" = some (some (.ref f35)))
    (l35 : K.lookup f35 = some ⟨oc35, od35, .func (PySem.W.fnOf "_law_half" "_law_half" (defArgs s_law_half) (defBody s_law_half) (defScope s_law_half) .none kV35 dc35 pm35 an35 cd35 ct35), sl35⟩)
    (c35 : PySem.W.codeIn K cd35 "_law_half" = true)
    (k35 : PySem.W.keepIn K (.ref f35) = true)
    (a36 : PySem.W.nsIn K mainGlobals "law" = some (some (.ref f36)))
    (l36 : K.lookup f36 = some ⟨oc36, od36, .func (PySem.W.fnOf "law" "law" (defArgs s_law) (defBody s_law) (defScope s_law) .none kV36 dc36 pm36 an36 cd36 ct36), sl36⟩)
    (c36 : PySem.W.codeIn K cd36 "law" = true)
    (k36 : PySem.W.keepIn K (.ref f36) = true)
    (n_Council_column_quotas : PySem.W.findIn K (.ref C0) "column_quotas" = some none)
    (n_Council_seat_weights : PySem.W.findIn K (.ref C0) "seat_weights" = some none)
    (n_Packer_its_answers : PySem.W.findIn K (.ref C1) "its_answers" = some none)
    (n_Packer_its_rooms : PySem.W.findIn K (.ref C1) "its_rooms" = some none)
    (n_Packer_its_weights : PySem.W.findIn K (.ref C1) "its_weights" = some none)
    (z_abs : PySem.W.nsIn K mainGlobals "abs" = some none)
    (z_all : PySem.W.nsIn K mainGlobals "all" = some none)
    (z_any : PySem.W.nsIn K mainGlobals "any" = some none)
    (z_bool : PySem.W.nsIn K mainGlobals "bool" = some none)
    (z_enumerate : PySem.W.nsIn K mainGlobals "enumerate" = some none)
    (z_int : PySem.W.nsIn K mainGlobals "int" = some none)
    (z_isinstance : PySem.W.nsIn K mainGlobals "isinstance" = some none)
    (z_len : PySem.W.nsIn K mainGlobals "len" = some none)
    (z_list : PySem.W.nsIn K mainGlobals "list" = some none)
    (z_max : PySem.W.nsIn K mainGlobals "max" = some none)
    (z_min : PySem.W.nsIn K mainGlobals "min" = some none)
    (z_range : PySem.W.nsIn K mainGlobals "range" = some none)
    (z_sorted : PySem.W.nsIn K mainGlobals "sorted" = some none)
    (z_sum : PySem.W.nsIn K mainGlobals "sum" = some none)
    (z_tuple : PySem.W.nsIn K mainGlobals "tuple" = some none)
    (z_zip : PySem.W.nsIn K mainGlobals "zip" = some none)
    (g_LEAST_SEATS : ∃ tk : Tok, PySem.W.nsIn K mainGlobals "LEAST_SEATS" = some (some (.int (2) tk)))
    (g_MOST_COLUMNS : ∃ tk : Tok, PySem.W.nsIn K mainGlobals "MOST_COLUMNS" = some (some (.int (6) tk)))
    (g_MOST_SEATS : ∃ tk : Tok, PySem.W.nsIn K mainGlobals "MOST_SEATS" = some (some (.int (7) tk)))
    (g_MOST_WEIGHT : ∃ tk : Tok, PySem.W.nsIn K mainGlobals "MOST_WEIGHT" = some (some (.int (1000000) tk)))
    (kc9 : K.lookup cc9 = some ⟨tyc9, ddc9, .fields vsc9, slc9⟩)
    (kv9 : vsc9[11]? = some (.ref PP9))
    (nt9 : K.lookup PP9 = none)
    (ndP : ([PP9] : List Addr).Nodup)
    : LamX.LawAtS l w K CX0 11 63 "script" mg fa h := by
  have e := hfa.symm.trans (PySem.W.mg_of X G a36)
  cases e
  have F0 := fun_mk (st := s_is_integer) l0 c0 k0
  have F1 := fun_mk (st := s_is_between) l1 c1 k1
  have F2 := fun_mk (st := s_are_quotas) l2 c2 k2
  have F3 := fun_mk (st := s_are_weights) l3 c3 k3
  have F4 := fun_mk (st := s_Council_init) l4 c4 k4
  have F5 := fun_mk (st := s_Council_total) l5 c5 k5
  have F6 := fun_mk (st := s_Council_mirrored) l6 c6 k6
  have F7 := fun_mk (st := s_Council_width) l7 c7 k7
  have F8 := fun_mk (st := s_all_sides) l8 c8 k8
  have F9 := fun_mk (st := s_first_least) l9 c9 k9
  have F10 := fun_mk (st := s_bits_of) l10 c10 k10
  have F11 := fun_mk (st := s_Council_weights) l11 c11 k11
  have F12 := fun_mk (st := s_Packer_init) l12 c12 k12
  have F13 := fun_mk (st := s_first_fit) l13 c13 k13
  have F14 := fun_mk (st := s_fits) l14 c14 k14
  have F15 := fun_mk (st := s_next_loads) l15 c15 k15
  have F16 := fun_mk (st := s_load_levels) l16 c16 k16
  have F17 := fun_mk (st := s_can_pack) l17 c17 k17
  have F18 := fun_mk (st := s_members) l18 c18 k18
  have F19 := fun_mk (st := s_Packer_is_heavy) l19 c19 k19
  have F20 := fun_mk (st := s_heavy_masks) l20 c20 k20
  have F21 := fun_mk (st := s_Council_allowance) l21 c21 k21
  have F22 := fun_mk (st := s_rooms_of) l22 c22 k22
  have F23 := fun_mk (st := s_heavy_table) l23 c23 k23
  have F24 := fun_mk (st := s_heavy_sets) l24 c24 k24
  have F25 := fun_mk (st := s_is_light) l25 c25 k25
  have F26 := fun_mk (st := s_gains) l26 c26 k26
  have F27 := fun_mk (st := s_compare) l27 c27 k27
  have F28 := fun_mk (st := s_index_lists) l28 c28 k28
  have F29 := fun_mk (st := s_fewest) l29 c29 k29
  have F30 := fun_mk (st := s_law_bag) l30 c30 k30
  have F31 := fun_mk (st := s_law_take) l31 c31 k31
  have F32 := fun_mk (st := s_law_council) l32 c32 k32
  have F33 := fun_mk (st := s_same_power) l33 c33 k33
  have F34 := fun_mk (st := s_law_ends_right) l34 c34 k34
  have F35 := fun_mk (st := s_law_half) l35 c35 k35
  have F36 := fun_mk (st := s_law) l36 c36 k36
  have hx : ∀ t ∈ ([("first_least", cc9, PP9, qn_first_least)] : List TabRow), t.1 ∈ (["first_least"] : List Str) ∧ PySem.W.tabIn K t.1 = some (t.2.1, t.2.2.1) ∧ K.lookup t.2.2.1 = none := by
    intro t ht
    simp only [List.mem_cons, List.not_mem_nil, or_false] at ht
    rcases ht with rfl
    · exact ⟨by simp, tabIn_of a9 l9 rfl kc9 kv9, nt9⟩
  refine lawAt_of (fd := PySem.W.fnOf "law" "law" (defArgs s_law) (defBody s_law) (defScope s_law) .none kV36 dc36 pm36 an36 cd36 ct36) [("first_least", cc9, PP9, qn_first_least)] TT hx (fun s v => .of_eq rfl) fun base KB NB TB => ?_
  let T : Txt K mg base (thOf [("first_least", cc9, PP9, qn_first_least)]) := {
    a_is_integer := f0, d_is_integer := _, F_is_integer := F0, b_is_integer := F0.binds (ps := P_is_integer) fun _ _ _ _ _ _ us hl => match us, hl with | [_], _ => rfl,
    a_is_between := f1, d_is_between := _, F_is_between := F1, b_is_between := F1.binds (ps := P_is_between) fun _ _ _ _ _ _ us hl => match us, hl with | [_, _, _], _ => rfl,
    a_are_quotas := f2, d_are_quotas := _, F_are_quotas := F2, b_are_quotas := F2.binds (ps := P_are_quotas) fun _ _ _ _ _ _ us hl => match us, hl with | [_, _], _ => rfl,
    a_are_weights := f3, d_are_weights := _, F_are_weights := F3, b_are_weights := F3.binds (ps := P_are_weights) fun _ _ _ _ _ _ us hl => match us, hl with | [_], _ => rfl,
    a_Council_init := f4, d_Council_init := _, F_Council_init := F4, b_Council_init := F4.binds (ps := P_Council_init) fun _ _ _ _ _ _ us hl => match us, hl with | [_, _, _], _ => rfl,
    a_Council_total := f5, d_Council_total := _, F_Council_total := F5, b_Council_total := F5.binds (ps := P_Council_total) fun _ _ _ _ _ _ us hl => match us, hl with | [_], _ => rfl,
    a_Council_mirrored := f6, d_Council_mirrored := _, F_Council_mirrored := F6, b_Council_mirrored := F6.binds (ps := P_Council_mirrored) fun _ _ _ _ _ _ us hl => match us, hl with | [_], _ => rfl,
    a_Council_width := f7, d_Council_width := _, F_Council_width := F7, b_Council_width := F7.binds (ps := P_Council_width) fun _ _ _ _ _ _ us hl => match us, hl with | [_], _ => rfl,
    a_all_sides := f8, d_all_sides := _, F_all_sides := F8, b_all_sides := F8.binds (ps := P_all_sides) fun _ _ _ _ _ _ us hl => match us, hl with | [_], _ => rfl,
    a_first_least := f9, d_first_least := _, F_first_least := F9, b_first_least := F9.binds (ps := P_first_least) fun _ _ _ _ _ _ us hl => match us, hl with | [_], _ => rfl,
    tc_first_least := cc9, tP_first_least := PP9, hc_first_least := rfl, tb_first_least := TB ("first_least", cc9, PP9, qn_first_least) (by simp), in_first_least := th_mem (x := "first_least") (c := cc9) (by simp), un_first_least := tb_un (x := "first_least") (c := cc9) ndP (by simp),
    a_bits_of := f10, d_bits_of := _, F_bits_of := F10, b_bits_of := F10.binds (ps := P_bits_of) fun _ _ _ _ _ _ us hl => match us, hl with | [_], _ => rfl,
    a_Council_weights := f11, d_Council_weights := _, F_Council_weights := F11, b_Council_weights := F11.binds (ps := P_Council_weights) fun _ _ _ _ _ _ us hl => match us, hl with | [_], _ => rfl,
    a_Packer_init := f12, d_Packer_init := _, F_Packer_init := F12, b_Packer_init := F12.binds (ps := P_Packer_init) fun _ _ _ _ _ _ us hl => match us, hl with | [_, _, _], _ => rfl,
    a_first_fit := f13, d_first_fit := _, F_first_fit := F13, b_first_fit := F13.binds (ps := P_first_fit) fun _ _ _ _ _ _ us hl => match us, hl with | [_, _], _ => rfl,
    a_fits := f14, d_fits := _, F_fits := F14, b_fits := F14.binds (ps := P_fits) fun _ _ _ _ _ _ us hl => match us, hl with | [_, _], _ => rfl,
    a_next_loads := f15, d_next_loads := _, F_next_loads := F15, b_next_loads := F15.binds (ps := P_next_loads) fun _ _ _ _ _ _ us hl => match us, hl with | [_, _], _ => rfl,
    a_load_levels := f16, d_load_levels := _, F_load_levels := F16, b_load_levels := F16.binds (ps := P_load_levels) fun _ _ _ _ _ _ us hl => match us, hl with | [_, _], _ => rfl,
    a_can_pack := f17, d_can_pack := _, F_can_pack := F17, b_can_pack := F17.binds (ps := P_can_pack) fun _ _ _ _ _ _ us hl => match us, hl with | [_, _], _ => rfl,
    a_members := f18, d_members := _, F_members := F18, b_members := F18.binds (ps := P_members) fun _ _ _ _ _ _ us hl => match us, hl with | [_, _], _ => rfl,
    a_Packer_is_heavy := f19, d_Packer_is_heavy := _, F_Packer_is_heavy := F19, b_Packer_is_heavy := F19.binds (ps := P_Packer_is_heavy) fun _ _ _ _ _ _ us hl => match us, hl with | [_, _], _ => rfl,
    a_heavy_masks := f20, d_heavy_masks := _, F_heavy_masks := F20, b_heavy_masks := F20.binds (ps := P_heavy_masks) fun _ _ _ _ _ _ us hl => match us, hl with | [_, _], _ => rfl,
    a_Council_allowance := f21, d_Council_allowance := _, F_Council_allowance := F21, b_Council_allowance := F21.binds (ps := P_Council_allowance) fun _ _ _ _ _ _ us hl => match us, hl with | [_, _], _ => rfl,
    a_rooms_of := f22, d_rooms_of := _, F_rooms_of := F22, b_rooms_of := F22.binds (ps := P_rooms_of) fun _ _ _ _ _ _ us hl => match us, hl with | [_, _], _ => rfl,
    a_heavy_table := f23, d_heavy_table := _, F_heavy_table := F23, b_heavy_table := F23.binds (ps := P_heavy_table) fun _ _ _ _ _ _ us hl => match us, hl with | [_, _], _ => rfl,
    a_heavy_sets := f24, d_heavy_sets := _, F_heavy_sets := F24, b_heavy_sets := F24.binds (ps := P_heavy_sets) fun _ _ _ _ _ _ us hl => match us, hl with | [_, _], _ => rfl,
    a_is_light := f25, d_is_light := _, F_is_light := F25, b_is_light := F25.binds (ps := P_is_light) fun _ _ _ _ _ _ us hl => match us, hl with | [_, _], _ => rfl,
    a_gains := f26, d_gains := _, F_gains := F26, b_gains := F26.binds (ps := P_gains) fun _ _ _ _ _ _ us hl => match us, hl with | [_, _, _], _ => rfl,
    a_compare := f27, d_compare := _, F_compare := F27, b_compare := F27.binds (ps := P_compare) fun _ _ _ _ _ _ us hl => match us, hl with | [_, _], _ => rfl,
    a_index_lists := f28, d_index_lists := _, F_index_lists := F28, b_index_lists := F28.binds (ps := P_index_lists) fun _ _ _ _ _ _ us hl => match us, hl with | [_, _], _ => rfl,
    a_fewest := f29, d_fewest := _, F_fewest := F29, b_fewest := F29.binds (ps := P_fewest) fun _ _ _ _ _ _ us hl => match us, hl with | [_], _ => rfl,
    a_law_bag := f30, d_law_bag := _, F_law_bag := F30, b_law_bag := F30.binds (ps := P_law_bag) fun _ _ _ _ _ _ us hl => match us, hl with | [_], _ => rfl,
    a_law_take := f31, d_law_take := _, F_law_take := F31, b_law_take := F31.binds (ps := P_law_take) fun _ _ _ _ _ _ us hl => match us, hl with | [_, _], _ => rfl,
    a_law_council := f32, d_law_council := _, F_law_council := F32, b_law_council := F32.binds (ps := P_law_council) fun _ _ _ _ _ _ us hl => match us, hl with | [_, _, _], _ => rfl,
    a_same_power := f33, d_same_power := _, F_same_power := F33, b_same_power := F33.binds (ps := P_same_power) fun _ _ _ _ _ _ us hl => match us, hl with | [_, _], _ => rfl,
    a_law_ends_right := f34, d_law_ends_right := _, F_law_ends_right := F34, b_law_ends_right := F34.binds (ps := P_law_ends_right) fun _ _ _ _ _ _ us hl => match us, hl with | [_, _], _ => rfl,
    a_law_half := f35, d_law_half := _, F_law_half := F35, b_law_half := F35.binds (ps := P_law_half) fun _ _ _ _ _ _ us hl => match us, hl with | [_, _, _], _ => rfl,
    a_law := fa, d_law := _, F_law := F36, b_law := F36.binds (ps := P_law) fun _ _ _ _ _ _ us hl => match us, hl with | [_], _ => rfl,
    at_Council := C0, C_Council := PySem.W.mg_of X G aC0, cl_Council := ⟨pg0, hd0, po0, sa0⟩,
    mk_Council := ⟨mk0, a4, i4, kc0⟩,
    at_Packer := C1, C_Packer := PySem.W.mg_of X G aC1, cl_Packer := ⟨pg1, hd1, po1, sa1⟩,
    mk_Packer := ⟨mk1, a12, i12, kc1⟩,
    n_Council_column_quotas := n_Council_column_quotas,
    n_Council_seat_weights := n_Council_seat_weights,
    n_Packer_its_answers := n_Packer_its_answers,
    n_Packer_its_rooms := n_Packer_its_rooms,
    n_Packer_its_weights := n_Packer_its_weights,
    m_is_integer := PySem.W.mg_of X G a0,
    m_is_between := PySem.W.mg_of X G a1,
    m_are_quotas := PySem.W.mg_of X G a2,
    m_are_weights := PySem.W.mg_of X G a3,
    m_Council_total := ⟨a5, i5, k5⟩,
    m_Council_mirrored := ⟨a6, i6, k6⟩,
    m_Council_width := ⟨a7, i7, k7⟩,
    m_all_sides := PySem.W.mg_of X G a8,
    m_first_least := PySem.W.mg_of X G a9,
    m_bits_of := PySem.W.mg_of X G a10,
    m_Council_weights := ⟨a11, i11, k11⟩,
    m_first_fit := PySem.W.mg_of X G a13,
    m_fits := PySem.W.mg_of X G a14,
    m_next_loads := PySem.W.mg_of X G a15,
    m_load_levels := PySem.W.mg_of X G a16,
    m_can_pack := PySem.W.mg_of X G a17,
    m_members := PySem.W.mg_of X G a18,
    m_Packer_is_heavy := ⟨a19, i19, k19⟩,
    m_heavy_masks := PySem.W.mg_of X G a20,
    m_Council_allowance := ⟨a21, i21, k21⟩,
    m_rooms_of := PySem.W.mg_of X G a22,
    m_heavy_table := PySem.W.mg_of X G a23,
    m_heavy_sets := PySem.W.mg_of X G a24,
    m_is_light := PySem.W.mg_of X G a25,
    m_gains := PySem.W.mg_of X G a26,
    m_compare := PySem.W.mg_of X G a27,
    m_index_lists := PySem.W.mg_of X G a28,
    m_fewest := PySem.W.mg_of X G a29,
    m_law_bag := PySem.W.mg_of X G a30,
    m_law_take := PySem.W.mg_of X G a31,
    m_law_council := PySem.W.mg_of X G a32,
    m_same_power := PySem.W.mg_of X G a33,
    m_law_ends_right := PySem.W.mg_of X G a34,
    m_law_half := PySem.W.mg_of X G a35,
    m_law := PySem.W.mg_of X G a36,
    z_abs := PySem.W.mg_none_of X G z_abs,
    z_all := PySem.W.mg_none_of X G z_all,
    z_any := PySem.W.mg_none_of X G z_any,
    z_bool := PySem.W.mg_none_of X G z_bool,
    z_enumerate := PySem.W.mg_none_of X G z_enumerate,
    z_int := PySem.W.mg_none_of X G z_int,
    z_isinstance := PySem.W.mg_none_of X G z_isinstance,
    z_len := PySem.W.mg_none_of X G z_len,
    z_list := PySem.W.mg_none_of X G z_list,
    z_max := PySem.W.mg_none_of X G z_max,
    z_min := PySem.W.mg_none_of X G z_min,
    z_range := PySem.W.mg_none_of X G z_range,
    z_sorted := PySem.W.mg_none_of X G z_sorted,
    z_sum := PySem.W.mg_none_of X G z_sum,
    z_tuple := PySem.W.mg_none_of X G z_tuple,
    z_zip := PySem.W.mg_none_of X G z_zip,
    g_LEAST_SEATS := g_LEAST_SEATS.imp fun _ e => PySem.W.mg_of X G e,
    g_MOST_COLUMNS := g_MOST_COLUMNS.imp fun _ e => PySem.W.mg_of X G e,
    g_MOST_SEATS := g_MOST_SEATS.imp fun _ e => PySem.W.mg_of X G e,
    g_MOST_WEIGHT := g_MOST_WEIGHT.imp fun _ e => PySem.W.mg_of X G e
  }
  exact (ok_law T).imp (scr_of (mg := ⟨mg, w, thOf [("first_least", cc9, PP9, qn_first_least)]⟩))
end PD
open PySem PySem.W PyProof.Rows
set_option maxRecDepth 100000 in
set_option maxHeartbeats 0 in
theorem PySem.Challenge.cw_packedseats_k76_whole_uniform_quotas_holds : PySem.Challenge.rw_packedseats_k76_whole_uniform_quotas.Holds := by
  w_on; o_law; k_head; (case hw => w_witness2)
  k_fill
  refine PD.walk_tabs (l := PySem.Challenge.rw_packedseats_k76_whole_uniform_quotas) (n := 63) (k := 11) (x := "script") (CX := fun _ => L2.CX0) (xs := ["first_least"]) rfl (by decide) rfl ⟨rfl, by decide, by decide⟩ (by decide +kernel) (fun w h Y => PySem.W.km_in_of Y) ?F (fun _ _ _ _ _ h => h)
  case F =>
    intro w mg fa h KX G hmg TT
    refine' PD.all_mk KX G hmg TT ?aC0 ?pg0 ?hd0 ?po0 ?sa0 ?mk0 ?kc0 ?aC1 ?pg1 ?hd1 ?po1 ?sa1 ?mk1 ?kc1 ?a0 ?l0 ?c0 ?k0 ?a1 ?l1 ?c1 ?k1 ?a2 ?l2 ?c2 ?k2 ?a3 ?l3 ?c3 ?k3 ?a4 ?i4 ?l4 ?c4 ?k4 ?a5 ?i5 ?l5 ?c5 ?k5 ?a6 ?i6 ?l6 ?c6 ?k6 ?a7 ?i7 ?l7 ?c7 ?k7 ?a8 ?l8 ?c8 ?k8 ?a9 ?l9 ?c9 ?k9 ?a10 ?l10 ?c10 ?k10 ?a11 ?i11 ?l11 ?c11 ?k11 ?a12 ?i12 ?l12 ?c12 ?k12 ?a13 ?l13 ?c13 ?k13 ?a14 ?l14 ?c14 ?k14 ?a15 ?l15 ?c15 ?k15 ?a16 ?l16 ?c16 ?k16 ?a17 ?l17 ?c17 ?k17 ?a18 ?l18 ?c18 ?k18 ?a19 ?i19 ?l19 ?c19 ?k19 ?a20 ?l20 ?c20 ?k20 ?a21 ?i21 ?l21 ?c21 ?k21 ?a22 ?l22 ?c22 ?k22 ?a23 ?l23 ?c23 ?k23 ?a24 ?l24 ?c24 ?k24 ?a25 ?l25 ?c25 ?k25 ?a26 ?l26 ?c26 ?k26 ?a27 ?l27 ?c27 ?k27 ?a28 ?l28 ?c28 ?k28 ?a29 ?l29 ?c29 ?k29 ?a30 ?l30 ?c30 ?k30 ?a31 ?l31 ?c31 ?k31 ?a32 ?l32 ?c32 ?k32 ?a33 ?l33 ?c33 ?k33 ?a34 ?l34 ?c34 ?k34 ?a35 ?l35 ?c35 ?k35 ?a36 ?l36 ?c36 ?k36 ?n_Council_column_quotas ?n_Council_seat_weights ?n_Packer_its_answers ?n_Packer_its_rooms ?n_Packer_its_weights ?z_abs ?z_all ?z_any ?z_bool ?z_enumerate ?z_int ?z_isinstance ?z_len ?z_list ?z_max ?z_min ?z_range ?z_sorted ?z_sum ?z_tuple ?z_zip ?g_LEAST_SEATS ?g_MOST_COLUMNS ?g_MOST_SEATS ?g_MOST_WEIGHT ?kc9 ?kv9 ?nt9 ?ndP
    (case aC0 => k_is)
    (case pg0 => k_is)
    (case hd0 => k_is)
    (case po0 => k_is)
    (case sa0 => k_is)
    (case mk0 => k_is)
    (case kc0 => k_is)
    (case aC1 => k_is)
    (case pg1 => k_is)
    (case hd1 => k_is)
    (case po1 => k_is)
    (case sa1 => k_is)
    (case mk1 => k_is)
    (case kc1 => k_is)
    (case a0 => k_is)
    (case l0 => k_is)
    (case c0 => k_is)
    (case k0 => k_is)
    (case a1 => k_is)
    (case l1 => k_is)
    (case c1 => k_is)
    (case k1 => k_is)
    (case a2 => k_is)
    (case l2 => k_is)
    (case c2 => k_is)
    (case k2 => k_is)
    (case a3 => k_is)
    (case l3 => k_is)
    (case c3 => k_is)
    (case k3 => k_is)
    (case a4 => k_is)
    (case i4 => k_is)
    (case l4 => k_is)
    (case c4 => k_is)
    (case k4 => k_is)
    (case a5 => k_is)
    (case i5 => k_is)
    (case l5 => k_is)
    (case c5 => k_is)
    (case k5 => k_is)
    (case a6 => k_is)
    (case i6 => k_is)
    (case l6 => k_is)
    (case c6 => k_is)
    (case k6 => k_is)
    (case a7 => k_is)
    (case i7 => k_is)
    (case l7 => k_is)
    (case c7 => k_is)
    (case k7 => k_is)
    (case a8 => k_is)
    (case l8 => k_is)
    (case c8 => k_is)
    (case k8 => k_is)
    (case a9 => k_is)
    (case l9 => k_is)
    (case c9 => k_is)
    (case k9 => k_is)
    (case a10 => k_is)
    (case l10 => k_is)
    (case c10 => k_is)
    (case k10 => k_is)
    (case a11 => k_is)
    (case i11 => k_is)
    (case l11 => k_is)
    (case c11 => k_is)
    (case k11 => k_is)
    (case a12 => k_is)
    (case i12 => k_is)
    (case l12 => k_is)
    (case c12 => k_is)
    (case k12 => k_is)
    (case a13 => k_is)
    (case l13 => k_is)
    (case c13 => k_is)
    (case k13 => k_is)
    (case a14 => k_is)
    (case l14 => k_is)
    (case c14 => k_is)
    (case k14 => k_is)
    (case a15 => k_is)
    (case l15 => k_is)
    (case c15 => k_is)
    (case k15 => k_is)
    (case a16 => k_is)
    (case l16 => k_is)
    (case c16 => k_is)
    (case k16 => k_is)
    (case a17 => k_is)
    (case l17 => k_is)
    (case c17 => k_is)
    (case k17 => k_is)
    (case a18 => k_is)
    (case l18 => k_is)
    (case c18 => k_is)
    (case k18 => k_is)
    (case a19 => k_is)
    (case i19 => k_is)
    (case l19 => k_is)
    (case c19 => k_is)
    (case k19 => k_is)
    (case a20 => k_is)
    (case l20 => k_is)
    (case c20 => k_is)
    (case k20 => k_is)
    (case a21 => k_is)
    (case i21 => k_is)
    (case l21 => k_is)
    (case c21 => k_is)
    (case k21 => k_is)
    (case a22 => k_is)
    (case l22 => k_is)
    (case c22 => k_is)
    (case k22 => k_is)
    (case a23 => k_is)
    (case l23 => k_is)
    (case c23 => k_is)
    (case k23 => k_is)
    (case a24 => k_is)
    (case l24 => k_is)
    (case c24 => k_is)
    (case k24 => k_is)
    (case a25 => k_is)
    (case l25 => k_is)
    (case c25 => k_is)
    (case k25 => k_is)
    (case a26 => k_is)
    (case l26 => k_is)
    (case c26 => k_is)
    (case k26 => k_is)
    (case a27 => k_is)
    (case l27 => k_is)
    (case c27 => k_is)
    (case k27 => k_is)
    (case a28 => k_is)
    (case l28 => k_is)
    (case c28 => k_is)
    (case k28 => k_is)
    (case a29 => k_is)
    (case l29 => k_is)
    (case c29 => k_is)
    (case k29 => k_is)
    (case a30 => k_is)
    (case l30 => k_is)
    (case c30 => k_is)
    (case k30 => k_is)
    (case a31 => k_is)
    (case l31 => k_is)
    (case c31 => k_is)
    (case k31 => k_is)
    (case a32 => k_is)
    (case l32 => k_is)
    (case c32 => k_is)
    (case k32 => k_is)
    (case a33 => k_is)
    (case l33 => k_is)
    (case c33 => k_is)
    (case k33 => k_is)
    (case a34 => k_is)
    (case l34 => k_is)
    (case c34 => k_is)
    (case k34 => k_is)
    (case a35 => k_is)
    (case l35 => k_is)
    (case c35 => k_is)
    (case k35 => k_is)
    (case a36 => k_is)
    (case l36 => k_is)
    (case c36 => k_is)
    (case k36 => k_is)
    (case n_Council_column_quotas => k_is)
    (case n_Council_seat_weights => k_is)
    (case n_Packer_its_answers => k_is)
    (case n_Packer_its_rooms => k_is)
    (case n_Packer_its_weights => k_is)
    (case z_abs => k_is)
    (case z_all => k_is)
    (case z_any => k_is)
    (case z_bool => k_is)
    (case z_enumerate => k_is)
    (case z_int => k_is)
    (case z_isinstance => k_is)
    (case z_len => k_is)
    (case z_list => k_is)
    (case z_max => k_is)
    (case z_min => k_is)
    (case z_range => k_is)
    (case z_sorted => k_is)
    (case z_sum => k_is)
    (case z_tuple => k_is)
    (case z_zip => k_is)
    (case g_LEAST_SEATS => exact ⟨_, by k_is⟩)
    (case g_MOST_COLUMNS => exact ⟨_, by k_is⟩)
    (case g_MOST_SEATS => exact ⟨_, by k_is⟩)
    (case g_MOST_WEIGHT => exact ⟨_, by k_is⟩)
    (case kc9 => k_is)
    (case kv9 => exact rfl)
    (case nt9 => kernel_rfl)
    (case ndP => decide)
