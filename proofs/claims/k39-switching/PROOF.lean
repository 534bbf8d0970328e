import PyProof.Rows.All
import HandS.ForMost
import HandS.ForSpec
import HandS.Deep
import HandS.IsInst
import HandS.TupAny
import HandS.SortRule
import HandS.SortInts
import HandS.Conv
import HandS.Lambda
import HandS.Wide
import KE.DataMinMax
import KE.SortData
import HandS.Style
import KE.KExcSuper
import HandS.HeadEnd
import HandS.HeadHook1
import HandS.HeadHook2
import HandS.HeadHook3
import HandS.HeadHook4
import HandS.EndBits
import HandS.EndTab
import KE.KDictPairs
import KE.KDictWalk
import KE.KDictList
import KE.KDictSum
import KE.KDictKeyed
import HandS.Head0
import HandS.Head1
import HandS.Head2
import KE.KStateDown
import PySem.Challenge.RW_noshortrings_k39_whole_switching
import KE.DataEq
set_option Elab.async false
set_option linter.all false
set_option maxRecDepth 100000
set_option maxHeartbeats 4000000
/-! N1: deep data over the hand layer: what stands for a datum, what a state of a def stands for. -/
namespace N
open PySem PySem.Spec PyProof.Rows L2
/-- the tables of code that the whole law knows -/
class TabOf where
  T : List (Addr × Str)

/-- all that was tracked, but for what may change (M) and tables of code, is as it was -/
def Fr (M : Addr → Prop) (H H' : Hp) : Prop := ∀ b o, H b = some o → ¬ M b → (∀ ps, o ≠ .tbl ps) → H' b = some o
theorem Fr.refl {M : Addr → Prop} {H : Hp} : Fr M H H := fun _ _ h _ _ => h
theorem Fr.trans {M : Addr → Prop} {H H1 H2 : Hp} (a : Fr M H H1) (b : Fr M H1 H2) : Fr M H H2 := fun c o h n t => b c o (a c o h n t) n t
theorem Fr.of {M : Addr → Prop} {H H' : Hp} (s : Same H H') : Fr M H H' := fun b o h _ _ => s b o h
theorem Fr.weak {M M' : Addr → Prop} {H H' : Hp} (h : ∀ a, M a → M' a) (f : Fr M H H') : Fr M' H H' := fun b o e n t => f b o e (fun z => n (h b z)) t
/-- what may change is a list -/
def Dom (M : Addr → Prop) (H : Hp) : Prop := ∀ a, M a → ∃ vs, H a = some (.lst vs)
theorem Dom.free {M : Addr → Prop} {H : Hp} (d : Dom M H) {p : Addr} (h : H p = Option.none) : ¬ M p := fun z => by
  obtain ⟨o, e⟩ := d p z
  rw [h] at e
  cases e
theorem Dom.same {M : Addr → Prop} {H H' : Hp} (d : Dom M H) (s : Same H H') : Dom M H' := fun a z => by
  obtain ⟨o, e⟩ := d a z
  exact ⟨o, s _ _ e⟩
theorem rd_fr {M : Addr → Prop} {H H' : Hp} {a : Addr} {u : HO} (f : Fr M H H') (n : ¬ M a) (t : ∀ ps, u ≠ .tbl ps) (r : Rd H a u) : Rd H' a u := by
  rcases r with r | ⟨o, r⟩
  · exact .inl (f _ _ r n t)
  · exact .inr ⟨o, f _ _ r n (fun ps z => by cases z)⟩
theorem rd_none {H : Hp} {a : Addr} {u : HO} (r : Rd H a u) (h : H a = Option.none) : False := by
  rcases r with r | ⟨o, r⟩ <;> (rw [h] at r; cases r)

mutual
/-- v stands for the datum, away from M -/
def Rep (M : Addr → Prop) (H : Hp) : PyData → V → Prop
  | .none, v => v = .non
  | .bool b, v => v = .bl b
  | .int i, v => v = .int i
  | .str s, v => v = .str s
  | .tuple ds, v => ∃ a vs, v = .ref a ∧ ¬ M a ∧ H a = some (.tup vs) ∧ Reps M H ds vs
  | .list ds, v => ∃ a vs, v = .ref a ∧ ¬ M a ∧ H a = some (.lst vs) ∧ Reps M H ds vs
  | .dict _, _ => False
def Reps (M : Addr → Prop) (H : Hp) : List PyData → List V → Prop
  | [], vs => vs = []
  | d :: ds, vs => ∃ v r, vs = v :: r ∧ Rep M H d v ∧ Reps M H ds r
end
mutual
theorem Rep.fr {M : Addr → Prop} {H H' : Hp} (f : Fr M H H') : ∀ (d : PyData) (v : V), Rep M H d v → Rep M H' d v
  | .none, _, h => h
  | .bool _, _, h => h
  | .int _, _, h => h
  | .str _, _, h => h
  | .tuple ds, _, h => by
    obtain ⟨a, vs, e, n, r, q⟩ := h
    exact ⟨a, vs, e, n, f _ _ r n (fun ps z => by cases z), Reps.fr f ds vs q⟩
  | .list ds, _, h => by
    obtain ⟨a, vs, e, n, r, q⟩ := h
    exact ⟨a, vs, e, n, f _ _ r n (fun ps z => by cases z), Reps.fr f ds vs q⟩
  | .dict _, _, h => h
theorem Reps.fr {M : Addr → Prop} {H H' : Hp} (f : Fr M H H') : ∀ (ds : List PyData) (vs : List V), Reps M H ds vs → Reps M H' ds vs
  | [], _, h => h
  | d :: ds, _, h => by
    obtain ⟨v, r, e, h1, h2⟩ := h
    exact ⟨v, r, e, Rep.fr f d v h1, Reps.fr f ds r h2⟩
end
mutual
theorem Rep.weak {M M' : Addr → Prop} {H : Hp} (w : ∀ a, M' a → M a) : ∀ (d : PyData) (v : V), Rep M H d v → Rep M' H d v
  | .none, _, h => h
  | .bool _, _, h => h
  | .int _, _, h => h
  | .str _, _, h => h
  | .tuple ds, _, h => by
    obtain ⟨a, vs, e, n, r, q⟩ := h
    exact ⟨a, vs, e, fun z => n (w a z), r, Reps.weak w ds vs q⟩
  | .list ds, _, h => by
    obtain ⟨a, vs, e, n, r, q⟩ := h
    exact ⟨a, vs, e, fun z => n (w a z), r, Reps.weak w ds vs q⟩
  | .dict _, _, h => h
theorem Reps.weak {M M' : Addr → Prop} {H : Hp} (w : ∀ a, M' a → M a) : ∀ (ds : List PyData) (vs : List V), Reps M H ds vs → Reps M' H ds vs
  | [], _, h => h
  | d :: ds, _, h => by
    obtain ⟨v, r, e, h1, h2⟩ := h
    exact ⟨v, r, e, Rep.weak w d v h1, Reps.weak w ds r h2⟩
end
mutual
/-- away from what is not tracked, too -/
theorem Rep.more {M M' : Addr → Prop} {H : Hp} (w : ∀ a, M' a → M a ∨ H a = Option.none) : ∀ (d : PyData) (v : V), Rep M H d v → Rep M' H d v
  | .none, _, h => h
  | .bool _, _, h => h
  | .int _, _, h => h
  | .str _, _, h => h
  | .tuple ds, _, h => by
    obtain ⟨a, vs, e, n, r, q⟩ := h
    exact ⟨a, vs, e, fun z => (w a z).elim n (rd_none (.inl r)), r, Reps.more w ds vs q⟩
  | .list ds, _, h => by
    obtain ⟨a, vs, e, n, r, q⟩ := h
    exact ⟨a, vs, e, fun z => (w a z).elim n (rd_none (.inl r)), r, Reps.more w ds vs q⟩
  | .dict _, _, h => h
theorem Reps.more {M M' : Addr → Prop} {H : Hp} (w : ∀ a, M' a → M a ∨ H a = Option.none) : ∀ (ds : List PyData) (vs : List V), Reps M H ds vs → Reps M' H ds vs
  | [], _, h => h
  | d :: ds, _, h => by
    obtain ⟨v, r, e, h1, h2⟩ := h
    exact ⟨v, r, e, Rep.more w d v h1, Reps.more w ds r h2⟩
end
mutual
theorem Rep.dp {K : PySem.W.Frag} {M : Addr → Prop} {H : Hp} : ∀ (d : PyData) (v : V), Rep M H d v → Dp K H v d
  | .none, _, h => by cases (show _ = _ from h); exact .non
  | .bool _, _, h => by cases (show _ = _ from h); exact .bl _
  | .int _, _, h => by cases (show _ = _ from h); exact .int _
  | .str _, _, h => by cases (show _ = _ from h); exact .str _
  | .tuple ds, _, h => by
    obtain ⟨a, vs, rfl, n, r, q⟩ := h
    exact .tup (.inl (.inl r)) (Reps.dp ds vs q)
  | .list ds, _, h => by
    obtain ⟨a, vs, rfl, n, r, q⟩ := h
    exact .lst (.inl (.inl r)) (Reps.dp ds vs q)
  | .dict _, _, h => h.elim
theorem Reps.dp {K : PySem.W.Frag} {M : Addr → Prop} {H : Hp} : ∀ (ds : List PyData) (vs : List V), Reps M H ds vs → DpAll K H vs ds
  | [], _, h => by cases (show _ = _ from h); exact .nil
  | d :: ds, _, h => by
    obtain ⟨v, r, rfl, h1, h2⟩ := h
    exact .cons (Rep.dp d v h1) (Reps.dp ds r h2)
end
theorem Reps.nil {M : Addr → Prop} {H : Hp} : Reps M H [] [] := rfl
theorem Reps.cons {M : Addr → Prop} {H : Hp} {d : PyData} {ds : List PyData} {v : V} {vs : List V} (h : Rep M H d v) (t : Reps M H ds vs) : Reps M H (d :: ds) (v :: vs) := ⟨v, vs, rfl, h, t⟩
theorem Reps.length {M : Addr → Prop} {H : Hp} : ∀ {ds : List PyData} {vs : List V}, Reps M H ds vs → vs.length = ds.length
  | [], _, h => by cases (show _ = _ from h); rfl
  | d :: ds, _, h => by
    obtain ⟨v, r, rfl, h1, h2⟩ := h
    rw [List.length_cons, List.length_cons, Reps.length h2]
theorem Reps.get {M : Addr → Prop} {H : Hp} : ∀ {ds : List PyData} {vs : List V} {i : Nat} {d : PyData}, Reps M H ds vs → ds[i]? = some d → ∃ v, vs[i]? = some v ∧ Rep M H d v
  | [], _, _, _, _, e => by simp at e
  | d :: ds, _, 0, _, h, e => by
    obtain ⟨v, r, rfl, h1, h2⟩ := h
    simp at e
    subst e
    exact ⟨v, rfl, h1⟩
  | d :: ds, _, i + 1, _, h, e => by
    obtain ⟨v, r, rfl, h1, h2⟩ := h
    obtain ⟨u, e1, e2⟩ := Reps.get (i := i) h2 (by simpa using e)
    exact ⟨u, by simpa using e1, e2⟩
theorem Reps.append {M : Addr → Prop} {H : Hp} : ∀ {ds es : List PyData} {vs us : List V}, Reps M H ds vs → Reps M H es us → Reps M H (ds ++ es) (vs ++ us)
  | [], _, _, _, h, k => by cases (show _ = _ from h); exact k
  | d :: ds, _, _, _, h, k => by
    obtain ⟨v, r, rfl, h1, h2⟩ := h
    exact .cons h1 (Reps.append h2 k)
theorem Reps.set {M : Addr → Prop} {H : Hp} {d' : PyData} {v' : V} (h' : Rep M H d' v') : ∀ {ds : List PyData} {vs : List V} (i : Nat), Reps M H ds vs → Reps M H (ds.set i d') (vs.set i v')
  | [], _, _, h => by cases (show _ = _ from h); exact rfl
  | d :: ds, _, 0, h => by
    obtain ⟨v, r, rfl, h1, h2⟩ := h
    exact .cons h' h2
  | d :: ds, _, i + 1, h => by
    obtain ⟨v, r, rfl, h1, h2⟩ := h
    exact .cons h1 (Reps.set h' i h2)
theorem Reps.eraseIdx {M : Addr → Prop} {H : Hp} : ∀ {ds : List PyData} {vs : List V} (i : Nat), Reps M H ds vs → Reps M H (ds.eraseIdx i) (vs.eraseIdx i)
  | [], _, _, h => by cases (show _ = _ from h); exact rfl
  | d :: ds, _, 0, h => by
    obtain ⟨v, r, rfl, h1, h2⟩ := h
    exact h2
  | d :: ds, _, i + 1, h => by
    obtain ⟨v, r, rfl, h1, h2⟩ := h
    exact .cons h1 (Reps.eraseIdx i h2)
theorem Reps.take {M : Addr → Prop} {H : Hp} : ∀ {ds : List PyData} {vs : List V} (i : Nat), Reps M H ds vs → Reps M H (ds.take i) (vs.take i)
  | [], _, _, h => by cases (show _ = _ from h); rw [List.take_nil, List.take_nil]; exact rfl
  | d :: ds, _, 0, h => rfl
  | d :: ds, _, i + 1, h => by
    obtain ⟨v, r, rfl, h1, h2⟩ := h
    exact .cons h1 (Reps.take i h2)
theorem Reps.drop {M : Addr → Prop} {H : Hp} : ∀ {ds : List PyData} {vs : List V} (i : Nat), Reps M H ds vs → Reps M H (ds.drop i) (vs.drop i)
  | [], _, _, h => by cases (show _ = _ from h); rw [List.drop_nil, List.drop_nil]; exact rfl
  | d :: ds, _, 0, h => h
  | d :: ds, _, i + 1, h => by
    obtain ⟨v, r, rfl, h1, h2⟩ := h
    exact Reps.drop i h2
theorem Reps.reverse {M : Addr → Prop} {H : Hp} : ∀ {ds : List PyData} {vs : List V}, Reps M H ds vs → Reps M H ds.reverse vs.reverse
  | [], _, h => by cases (show _ = _ from h); exact rfl
  | d :: ds, _, h => by
    obtain ⟨v, r, rfl, h1, h2⟩ := h
    rw [List.reverse_cons, List.reverse_cons]
    exact Reps.append (Reps.reverse h2) (.cons h1 .nil)
theorem Reps.mem {M : Addr → Prop} {H : Hp} {ds : List PyData} {vs : List V} (h : Reps M H ds vs) {v : V} (hv : v ∈ vs) : ∃ d, d ∈ ds ∧ Rep M H d v := by
  obtain ⟨i, hi, e⟩ := List.mem_iff_getElem.mp hv
  have l := h.length
  have q : ds[i]? = some ds[i] := List.getElem?_eq_getElem (by omega)
  obtain ⟨u, e1, e2⟩ := h.get q
  rw [List.getElem?_eq_getElem hi, e] at e1
  cases e1
  exact ⟨_, List.getElem_mem _, e2⟩
/-- ints -/
theorem Reps.ints {M : Addr → Prop} {H : Hp} : ∀ {ns : List Int} {vs : List V}, Reps M H (ns.map PyData.int) vs → vs = ns.map V.int
  | [], _, h => h
  | n :: ns, _, h => by
    obtain ⟨v, r, rfl, h1, h2⟩ := h
    rw [Reps.ints h2, show v = V.int n from h1]
    rfl
theorem Reps.of_ints {M : Addr → Prop} {H : Hp} : ∀ (ns : List Int), Reps M H (ns.map PyData.int) (ns.map V.int)
  | [] => rfl
  | n :: ns => .cons rfl (Reps.of_ints ns)
theorem Reps.bools {M : Addr → Prop} {H : Hp} : ∀ {ns : List Bool} {vs : List V}, Reps M H (ns.map PyData.bool) vs → vs = ns.map V.bl
  | [], _, h => h
  | n :: ns, _, h => by
    obtain ⟨v, r, rfl, h1, h2⟩ := h
    rw [Reps.bools h2, show v = V.bl n from h1]
    rfl

/-- as Rep, but a list itself may be one that changes -/
def TRep (M : Addr → Prop) (H : Hp) (d : PyData) (v : V) : Prop := match d with
  | .list ds => ∃ a vs, v = .ref a ∧ H a = some (.lst vs) ∧ Reps M H ds vs
  | d => Rep M H d v
theorem Rep.t {M : Addr → Prop} {H : Hp} {d : PyData} {v : V} (h : Rep M H d v) : TRep M H d v := by
  cases d with
  | list ds =>
    obtain ⟨a, vs, e, n, r, q⟩ := h
    exact ⟨a, vs, e, r, q⟩
  | _ => exact h

/-! ### the state of a def -/
/-- a name's place: nothing known; a datum that stays; a list that this def changes; a list of lists that it changes -/
inductive Sl where
  | no | im (d : PyData) | mu (ds : List PyData) | m2 (dss : List (List PyData))
abbrev En := List Sl
def Rows (M : Addr → Prop) (H : Hp) : List (List PyData) → List Addr → Prop
  | [], rs => rs = []
  | ds :: dss, rs => ∃ r rr vs, rs = r :: rr ∧ H r = some (.lst vs) ∧ Reps M H ds vs ∧ Rows M H dss rr
def SlOk (M : Addr → Prop) (H : Hp) (as : List Addr) (s : Sl) (x : Option V) : Prop := match s with
  | .no => as = []
  | .im d => as = [] ∧ ∃ v, x = some v ∧ Rep M H d v
  | .mu ds => ∃ a vs, as = [a] ∧ x = some (.ref a) ∧ H a = some (.lst vs) ∧ Reps M H ds vs
  | .m2 dss => ∃ a rs, as = a :: rs ∧ x = some (.ref a) ∧ H a = some (.lst (rs.map V.ref)) ∧ Rows M H dss rs
/-- Mc: what the caller changes; P0: what came in to be changed; H0: the heap at the entry; as: the addresses of the lists that this def changes, by slot; T: tables of code;
held: lists that are being made; keep: data that stay -/
structure Wd where
  Mc : Addr → Prop
  P0 : List Addr
  H0 : Hp
  as : List (List Addr)
  held : List (Addr × List V)
  keep : List (PyData × V)
variable [TabOf]
def Wd.T (_ : Wd) : List (Addr × Str) := TabOf.T
/-- a list that this def changes -/
def Wd.L (w : Wd) (a : Addr) : Prop := ∃ (i : Nat) (l : List Addr), w.as[i]? = some l ∧ a ∈ l
omit [TabOf] in
/-- not known at the entry -/
def Wd.New (w : Wd) (a : Addr) : Prop := ∀ o, w.H0 a = some o → ∃ ps, o = .tbl ps
def Wd.M (w : Wd) (a : Addr) : Prop := w.Mc a ∨ w.L a ∨ ∃ p ∈ w.held, p.1 = a
structure Ok (w : Wd) (en : En) (σ : L2.St) (H : Hp) : Prop where
  la : w.as.length = en.length
  ls : σ.length = en.length
  slot : ∀ (i : Nat) s, en[i]? = some s → ∃ a x, w.as[i]? = some a ∧ σ[i]? = some x ∧ SlOk w.M H a s x
  dj : ∀ (i j : Nat) (l l' : List Addr) (a : Addr), w.as[i]? = some l → w.as[j]? = some l' → a ∈ l → a ∈ l' → i = j
  nd : ∀ (i : Nat) (l : List Addr), w.as[i]? = some l → l.Nodup
  fresh : ∀ a, w.L a → a ∈ w.P0 ∨ w.New a
  dom : Dom w.M H
  fr : ∀ b o, w.H0 b = some o → b ∉ w.P0 → (∀ ps, o ≠ .tbl ps) → H b = some o
  tabs : LamX.Tabs w.T H
  held : ∀ p ∈ w.held, H p.1 = some (.lst p.2)
  hd : ∀ p ∈ w.held, ¬ w.L p.1
  hf : ∀ p ∈ w.held, w.New p.1
  p0 : ∀ a ∈ w.P0, ∃ vs, H a = some (.lst vs)
  keep : ∀ p ∈ w.keep, Rep w.M H p.1 p.2
theorem Rows.same {M : Addr → Prop} {H H' : Hp} (s : Same H H') : ∀ {dss : List (List PyData)} {rs : List Addr}, Rows M H dss rs → Rows M H' dss rs
  | [], _, h => h
  | ds :: dss, _, h => by
    obtain ⟨r, rr, vs, e, h1, h2, h3⟩ := h
    exact ⟨r, rr, vs, e, s _ _ h1, Reps.fr (Fr.of s) _ _ h2, Rows.same s h3⟩
theorem SlOk.same {M : Addr → Prop} {H H' : Hp} {as : List Addr} {s : Sl} {x : Option V} (sm : Same H H') (h : SlOk M H as s x) : SlOk M H' as s x := by
  cases s with
  | no => exact h
  | im d =>
    obtain ⟨e, v, e2, r⟩ := h
    exact ⟨e, v, e2, Rep.fr (Fr.of sm) _ _ r⟩
  | mu ds =>
    obtain ⟨a, vs, e, e2, e3, r⟩ := h
    exact ⟨a, vs, e, e2, sm _ _ e3, Reps.fr (Fr.of sm) _ _ r⟩
  | m2 dss =>
    obtain ⟨a, rs, e, e2, e3, r⟩ := h
    exact ⟨a, rs, e, e2, sm _ _ e3, Rows.same sm r⟩
theorem Ok.same {w : Wd} {en : En} {σ : L2.St} {H H' : Hp} (o : Ok w en σ H) (s : Same H H') : Ok w en σ H' where
  la := o.la
  ls := o.ls
  slot := fun i sl e => by
    obtain ⟨a, x, e1, e2, e3⟩ := o.slot i sl e
    exact ⟨a, x, e1, e2, e3.same s⟩
  dj := o.dj
  nd := o.nd
  fresh := o.fresh
  dom := o.dom.same s
  fr := fun b u e n t => s _ _ (o.fr b u e n t)
  tabs := LamX.Tabs.ext o.tabs s
  held := fun p hp => s _ _ (o.held p hp)
  hd := o.hd
  hf := o.hf
  p0 := fun a ha => by
    obtain ⟨vs, e⟩ := o.p0 a ha
    exact ⟨vs, s _ _ e⟩
  keep := fun p hp => Rep.fr (Fr.of s) _ _ (o.keep p hp)
theorem same_upd {H : Hp} {p : Addr} {o : HO} (h : H p = Option.none) : Same H (upd H p o) := fun b x e => by
  rw [upd_ne (ne_of_none e h)]
  exact e

/-! ### what an expression's reading does -/
abbrev FE := En → Option (PyData × En)
omit [TabOf] in
abbrev FB := En → Option (Bool × En)
omit [TabOf] in
abbrev FA := En → Option (List PyData × En)
def Ev (te : TE) (F : FE) : Prop := ∀ (w : Wd) (en : En) (σ : L2.St) (H : Hp) (d : PyData) (en' : En), Ok w en σ H → F en = some (d, en') →
  ∀ Q : VK, (∀ v H', Fr w.M H H' → Ok w en' σ H' → Rep w.M H' d v → Q v H') → te σ H Q
/-- its value may be a list that changes: it is used at once -/
def EvT (te : TE) (F : FE) : Prop := ∀ (w : Wd) (en : En) (σ : L2.St) (H : Hp) (d : PyData) (en' : En), Ok w en σ H → F en = some (d, en') →
  ∀ Q : VK, (∀ v H', Fr w.M H H' → Ok w en' σ H' → TRep w.M H' d v → Q v H') → te σ H Q
def EvB (tt : TT) (F : FB) : Prop := ∀ (w : Wd) (en : En) (σ : L2.St) (H : Hp) (b : Bool) (en' : En), Ok w en σ H → F en = some (b, en') →
  ∀ Q : Bool → Hp → Prop, (∀ H', Fr w.M H H' → Ok w en' σ H' → Q b H') → tt σ H Q
def EvA (ta : TA) (F : FA) : Prop := ∀ (w : Wd) (en : En) (σ : L2.St) (H : Hp) (ds : List PyData) (en' : En), Ok w en σ H → F en = some (ds, en') →
  ∀ Q : List V → Hp → Prop, (∀ vs H', Fr w.M H H' → Ok w en' σ H' → Reps w.M H' ds vs → Q vs H') → ta σ H Q
theorem Ev.t {te : TE} {F : FE} (h : Ev te F) : EvT te F := fun w en σ H d en' o e Q q => h w en σ H d en' o e Q fun v H' f o' r => q v H' f o' r.t
omit [TabOf] in
/-- an operator on two values, on one, a call on values: what it makes of data; nothing is changed -/
def RD2 (r : R2) (g : PyData → PyData → Option PyData) : Prop := ∀ (M : Addr → Prop) (H : Hp) (x y : V) (dx dy dz : PyData), Dom M H → Rep M H dx x → TRep M H dy y → g dx dy = some dz →
  ∀ Q : VK, (∀ v H', Same H H' → Rep M H' dz v → Q v H') → r x y H Q
omit [TabOf] in
def RD1 (r : V → Hp → VK → Prop) (g : PyData → Option PyData) : Prop := ∀ (M : Addr → Prop) (H : Hp) (x : V) (dx dz : PyData), Dom M H → TRep M H dx x → g dx = some dz →
  ∀ Q : VK, (∀ v H', Same H H' → Rep M H' dz v → Q v H') → r x H Q
omit [TabOf] in
def RDC (r : List V → Hp → VK → Prop) (g : List PyData → Option PyData) : Prop := ∀ (M : Addr → Prop) (H : Hp) (xs : List V) (ds : List PyData) (dz : PyData), Dom M H → Reps M H ds xs → g ds = some dz →
  ∀ Q : VK, (∀ v H', Same H H' → Rep M H' dz v → Q v H') → r xs H Q
end N

set_option Elab.async false
set_option linter.all false
set_option maxRecDepth 100000
set_option maxHeartbeats 4000000
/-! N2: expressions over data. -/
namespace N
open PySem PySem.Spec PyProof.Rows L2
variable [TabOf]

/-! ### what they make of data -/
omit [TabOf] in
def fVar (i : Nat) : FE := fun en => match en[i]? with | some (.im d) => some (d, en) | _ => none
omit [TabOf] in
def fMu (i : Nat) : FE := fun en => match en[i]? with | some (.mu ds) => some (.list ds, en) | _ => none
omit [TabOf] in
def fC (d : PyData) : FE := fun en => some (d, en)
omit [TabOf] in
def fOp (g : PyData → PyData → Option PyData) (Fa Fb : FE) : FE := fun en => (Fa en).bind fun p => (Fb p.2).bind fun q => (g p.1 q.1).map fun z => (z, q.2)
omit [TabOf] in
def fUn (g : PyData → Option PyData) (Fa : FE) : FE := fun en => (Fa en).bind fun p => (g p.1).map fun z => (z, p.2)
omit [TabOf] in
def fB (F : FE) : FB := fun en => (F en).bind fun p => match p.1 with | .bool b => some (b, p.2) | _ => none
omit [TabOf] in
def fAnd (A B : FB) : FB := fun en => (A en).bind fun p => if p.1 = true then B p.2 else some (false, p.2)
omit [TabOf] in
def fOr (A B : FB) : FB := fun en => (A en).bind fun p => if p.1 = true then some (true, p.2) else B p.2
omit [TabOf] in
def fNot (A : FB) : FB := fun en => (A en).map fun p => (!p.1, p.2)
omit [TabOf] in
def fIf (A : FB) (Fa Fb : FE) : FE := fun en => (A en).bind fun p => if p.1 = true then Fa p.2 else Fb p.2
omit [TabOf] in
def fOfB (A : FB) : FE := fun en => (A en).map fun p => (.bool p.1, p.2)
omit [TabOf] in
def fNil : FA := fun en => some ([], en)
omit [TabOf] in
def fCons (Fa : FE) (Fr : FA) : FA := fun en => (Fa en).bind fun p => (Fr p.2).map fun q => (p.1 :: q.1, q.2)
omit [TabOf] in
def fTup (A : FA) : FE := fun en => (A en).map fun p => (.tuple p.1, p.2)
omit [TabOf] in
def fLst (A : FA) : FE := fun en => (A en).map fun p => (.list p.1, p.2)
omit [TabOf] in
def fCB (g : List PyData → Option PyData) (A : FA) : FE := fun en => (A en).bind fun p => (g p.1).map fun z => (z, p.2)
omit [TabOf] in
/-- how many arguments -/
def LenA (A : FA) (n : Nat) : Prop := ∀ en ds e', A en = some (ds, e') → ds.length = n
theorem len_nil : LenA fNil 0 := fun en ds e' h => by
  cases h
  rfl
theorem len_cons {Fa : FE} {A : FA} {n : Nat} (h : LenA A n) : LenA (fCons Fa A) (n + 1) := fun en ds e' q => by
  unfold fCons at q
  cases e1 : Fa en with
  | none => rw [e1] at q; cases q
  | some p =>
    rw [e1] at q
    simp only [Option.bind_some] at q
    cases e2 : A p.2 with
    | none => rw [e2] at q; cases q
    | some r =>
      rw [e2] at q
      cases q
      rw [List.length_cons, h _ _ _ e2]

section
variable {te ta tb : TE} {tt tu : TT} {tl : TA} {Fa Fb : FE} {A B : FB} {L : FA} {r : R2} {g : PyData → PyData → Option PyData} {i : Nat}
theorem Ok.at {w : Wd} {en : En} {σ : L2.St} {H : Hp} (o : Ok w en σ H) {i : Nat} {d : PyData} (e : en[i]? = some (.im d)) : ∃ v, σ[i]? = some (some v) ∧ Rep w.M H d v := by
  obtain ⟨a, x, e1, e2, _, v, rfl, r⟩ := o.slot i _ e
  exact ⟨v, e2, r⟩
theorem Ok.mu {w : Wd} {en : En} {σ : L2.St} {H : Hp} (o : Ok w en σ H) {i : Nat} {ds : List PyData} (e : en[i]? = some (.mu ds)) : ∃ a vs, w.as[i]? = some [a] ∧ σ[i]? = some (some (.ref a)) ∧ H a = some (.lst vs) ∧ Reps w.M H ds vs := by
  obtain ⟨as, x, e1, e2, a, vs, rfl, rfl, e3, r⟩ := o.slot i _ e
  exact ⟨a, vs, e1, e2, e3, r⟩
theorem ev_var : Ev (tVar i) (fVar i) := fun w en σ H d en' o e Q q => by
  unfold fVar at e
  split at e
  · rename_i d' h
    cases e
    obtain ⟨v, e2, r⟩ := o.at h
    exact ⟨v, e2, q v H Fr.refl o r⟩
  · cases e
theorem ev_mu : EvT (tVar i) (fMu i) := fun w en σ H d en' o e Q q => by
  unfold fMu at e
  split at e
  · rename_i ds h
    cases e
    obtain ⟨a, vs, _, e2, e3, r⟩ := o.mu h
    exact ⟨_, e2, q _ H Fr.refl o ⟨a, vs, rfl, e3, r⟩⟩
  · cases e
theorem ev_c {d : PyData} {v : V} (h : ∀ M H, Rep M H d v) : Ev (tC v) (fC d) := fun w en σ H d' en' o e Q q => by
  cases e
  exact q v H Fr.refl o (h _ _)
theorem ev_op (ha : Ev ta Fa) (hb : EvT tb Fb) (hr : RD2 r g) : Ev (tOp r ta tb) (fOp g Fa Fb) := fun w en σ H d en' o e Q q => by
  unfold fOp at e
  cases e1 : Fa en with
  | none => rw [e1] at e; cases e
  | some p =>
    rw [e1] at e
    simp only [Option.bind_some] at e
    cases e2 : Fb p.2 with
    | none => rw [e2] at e; cases e
    | some p2 =>
      rw [e2] at e
      simp only [Option.bind_some] at e
      cases e3 : g p.1 p2.1 with
      | none => rw [e3] at e; cases e
      | some z =>
        rw [e3] at e
        cases e
        refine ha w en σ H p.1 p.2 o e1 _ fun x H1 f1 o1 r1 => ?_
        refine hb w p.2 σ H1 p2.1 p2.2 o1 e2 _ fun y H2 f2 o2 r2 => ?_
        exact hr w.M H2 x y _ _ _ o2.dom (Rep.fr f2 _ _ r1) r2 e3 _ fun v H3 s3 r3 => q v H3 ((f1.trans f2).trans (Fr.of s3)) (o2.same s3) r3
theorem ev_un {r : V → Hp → VK → Prop} {g : PyData → Option PyData} (ha : EvT ta Fa) (hr : RD1 r g) : Ev (tUn r ta) (fUn g Fa) := fun w en σ H d en' o e Q q => by
  unfold fUn at e
  cases e1 : Fa en with
  | none => rw [e1] at e; cases e
  | some p =>
    rw [e1] at e
    simp only [Option.bind_some] at e
    cases e3 : g p.1 with
    | none => rw [e3] at e; cases e
    | some z =>
      rw [e3] at e
      cases e
      refine ha w en σ H p.1 p.2 o e1 _ fun x H1 f1 o1 r1 => ?_
      exact hr w.M H1 x _ _ o1.dom r1 e3 _ fun v H3 s3 r3 => q v H3 (f1.trans (Fr.of s3)) (o1.same s3) r3
/-- a built-in of one argument -/
theorem ev_call1 {r : List V → Hp → VK → Prop} {g : PyData → Option PyData} (ha : EvT ta Fa) (hr : RD1 (fun x => r [x]) g) : Ev (tCB r (tCons ta tNil)) (fUn g Fa) := fun w en σ H d en' o e Q q => by
  unfold fUn at e
  cases e1 : Fa en with
  | none => rw [e1] at e; cases e
  | some p =>
    rw [e1] at e
    simp only [Option.bind_some] at e
    cases e3 : g p.1 with
    | none => rw [e3] at e; cases e
    | some z =>
      rw [e3] at e
      cases e
      refine ha w en σ H p.1 p.2 o e1 _ fun x H1 f1 o1 r1 => ?_
      exact hr w.M H1 x _ _ o1.dom r1 e3 _ fun v H3 s3 r3 => q v H3 (f1.trans (Fr.of s3)) (o1.same s3) r3
theorem eb_test (h : Ev te Fa) : EvB (tTest te) (fB Fa) := fun w en σ H b en' o e Q q => by
  unfold fB at e
  cases e1 : Fa en with
  | none => rw [e1] at e; cases e
  | some p =>
    rw [e1] at e
    obtain ⟨d, e2⟩ := p
    simp only [Option.bind_some] at e
    cases d with
    | bool b' =>
      cases e
      refine h w en σ H _ _ o e1 _ fun x H1 f1 o1 r1 => ?_
      exact ⟨b, r1, q H1 f1 o1⟩
    | _ => cases e
theorem eb_val (h : Ev te Fa) : EvB (tB te) (fB Fa) := eb_test h
theorem eb_and (ha : EvB tt A) (hb : EvB tu B) : EvB (tAnd tt tu) (fAnd A B) := fun w en σ H b en' o e Q q => by
  unfold fAnd at e
  cases e1 : A en with
  | none => rw [e1] at e; cases e
  | some p =>
    rw [e1] at e
    simp only [Option.bind_some] at e
    refine ha w en σ H p.1 p.2 o e1 _ fun H1 f1 o1 => ?_
    split at e
    · rename_i h1
      rw [if_pos h1]
      exact hb w _ σ H1 b en' o1 e Q fun H2 f2 o2 => q H2 (f1.trans f2) o2
    · rename_i h1
      rw [if_neg h1]
      cases e
      exact q H1 f1 o1
theorem eb_or (ha : EvB tt A) (hb : EvB tu B) : EvB (tOr tt tu) (fOr A B) := fun w en σ H b en' o e Q q => by
  unfold fOr at e
  cases e1 : A en with
  | none => rw [e1] at e; cases e
  | some p =>
    rw [e1] at e
    simp only [Option.bind_some] at e
    refine ha w en σ H p.1 p.2 o e1 _ fun H1 f1 o1 => ?_
    split at e
    · rename_i h1
      rw [if_pos h1]
      cases e
      exact q H1 f1 o1
    · rename_i h1
      rw [if_neg h1]
      exact hb w _ σ H1 b en' o1 e Q fun H2 f2 o2 => q H2 (f1.trans f2) o2
theorem eb_not (ha : EvB tt A) : EvB (tNot tt) (fNot A) := fun w en σ H b en' o e Q q => by
  unfold fNot at e
  cases e1 : A en with
  | none => rw [e1] at e; cases e
  | some p =>
    rw [e1] at e
    cases e
    exact ha w en σ H p.1 p.2 o e1 _ fun H1 f1 o1 => q H1 f1 o1
theorem ev_if (hc : EvB tt A) (ha : Ev ta Fa) (hb : Ev tb Fb) : Ev (tIf tt ta tb) (fIf A Fa Fb) := fun w en σ H d en' o e Q q => by
  unfold fIf at e
  cases e1 : A en with
  | none => rw [e1] at e; cases e
  | some p =>
    rw [e1] at e
    simp only [Option.bind_some] at e
    refine hc w en σ H p.1 p.2 o e1 _ fun H1 f1 o1 => ?_
    split at e
    · rename_i h1
      rw [if_pos h1]
      exact ha w _ σ H1 d en' o1 e Q fun v H2 f2 o2 => q v H2 (f1.trans f2) o2
    · rename_i h1
      rw [if_neg h1]
      exact hb w _ σ H1 d en' o1 e Q fun v H2 f2 o2 => q v H2 (f1.trans f2) o2
omit [TabOf] in
/-- and, or, not as values of bools -/
def fAndV (Fa Fb : FE) : FE := fun en => (fB Fa en).bind fun p => if p.1 = true then Fb p.2 else some (.bool false, p.2)
omit [TabOf] in
def fOrV (Fa Fb : FE) : FE := fun en => (fB Fa en).bind fun p => if p.1 = true then some (.bool true, p.2) else Fb p.2
omit [TabOf] in
def fNotV (Fa : FE) : FE := fun en => (fB Fa en).map fun p => (.bool !p.1, p.2)
theorem ev_andV (ha : Ev ta Fa) (hb : Ev tb Fb) : Ev (tAndV ta tb) (fAndV Fa Fb) := fun w en σ H d en' o e Q q => by
  unfold fAndV at e
  cases e1 : fB Fa en with
  | none => rw [e1] at e; cases e
  | some p =>
    rw [e1] at e
    simp only [Option.bind_some] at e
    refine eb_test ha w en σ H p.1 p.2 o e1 (fun k H1 => if k = true then tb σ H1 Q else Q (.bl false) H1) fun H1 f1 o1 => ?_
    split at e
    · rename_i h1
      rw [if_pos h1]
      exact hb w _ σ H1 d en' o1 e Q fun v H2 f2 o2 => q v H2 (f1.trans f2) o2
    · rename_i h1
      rw [if_neg h1]
      cases e
      exact q _ H1 f1 o1 rfl
theorem ev_orV (ha : Ev ta Fa) (hb : Ev tb Fb) : Ev (tOrV ta tb) (fOrV Fa Fb) := fun w en σ H d en' o e Q q => by
  unfold fOrV at e
  cases e1 : fB Fa en with
  | none => rw [e1] at e; cases e
  | some p =>
    rw [e1] at e
    simp only [Option.bind_some] at e
    refine eb_test ha w en σ H p.1 p.2 o e1 (fun k H1 => if k = true then Q (.bl true) H1 else tb σ H1 Q) fun H1 f1 o1 => ?_
    split at e
    · rename_i h1
      rw [if_pos h1]
      cases e
      exact q _ H1 f1 o1 rfl
    · rename_i h1
      rw [if_neg h1]
      exact hb w _ σ H1 d en' o1 e Q fun v H2 f2 o2 => q v H2 (f1.trans f2) o2
theorem ev_notV (ha : Ev ta Fa) : Ev (tNotV ta) (fNotV Fa) := fun w en σ H d en' o e Q q => by
  unfold fNotV at e
  cases e1 : fB Fa en with
  | none => rw [e1] at e; cases e
  | some p =>
    rw [e1] at e
    cases e
    exact eb_test ha w en σ H p.1 p.2 o e1 (fun k H1 => Q (.bl (!k)) H1) fun H1 f1 o1 => q _ H1 f1 o1 rfl
theorem ea_nil : EvA tNil fNil := fun w en σ H ds en' o e Q q => by
  cases e
  exact q [] H Fr.refl o .nil
theorem ea_cons (h : Ev te Fa) (hr : EvA tl L) : EvA (tCons te tl) (fCons Fa L) := fun w en σ H ds en' o e Q q => by
  unfold fCons at e
  cases e1 : Fa en with
  | none => rw [e1] at e; cases e
  | some p =>
    rw [e1] at e
    simp only [Option.bind_some] at e
    cases e2 : L p.2 with
    | none => rw [e2] at e; cases e
    | some p2 =>
      rw [e2] at e
      cases e
      refine h w en σ H p.1 p.2 o e1 _ fun x H1 f1 o1 r1 => ?_
      exact hr w _ σ H1 p2.1 p2.2 o1 e2 _ fun vs H2 f2 o2 r2 => q (x :: vs) H2 (f1.trans f2) o2 (.cons (Rep.fr f2 _ _ r1) r2)
theorem ev_tup {n : Nat} (h : EvA tl L) (hl : LenA L n) (hn : n ≤ 1000 := by decide) : Ev (tTup tl) (fTup L) := fun w en σ H d en' o e Q q => by
  unfold fTup at e
  cases e1 : L en with
  | none => rw [e1] at e; cases e
  | some p =>
    rw [e1] at e
    cases e
    refine h w en σ H p.1 p.2 o e1 _ fun vs H1 f1 o1 r1 => ?_
    refine ⟨Nat.le_of_lt (small1000 (by rw [r1.length, hl _ _ _ e1]; exact hn)), fun a ha => ?_⟩
    have s2 : Same H1 (upd H1 a (.tup vs)) := same_upd ha
    exact q _ _ (f1.trans (Fr.of s2)) (o1.same s2) ⟨a, vs, rfl, o1.dom.free ha, upd_same, Reps.fr (Fr.of s2) _ _ r1⟩
theorem ev_lst {n : Nat} (h : EvA tl L) (hl : LenA L n) (hn : n ≤ 1000 := by decide) : Ev (tLst tl) (fLst L) := fun w en σ H d en' o e Q q => by
  unfold fLst at e
  cases e1 : L en with
  | none => rw [e1] at e; cases e
  | some p =>
    rw [e1] at e
    cases e
    refine h w en σ H p.1 p.2 o e1 _ fun vs H1 f1 o1 r1 => ?_
    refine ⟨Nat.le_of_lt (small1000 (by rw [r1.length, hl _ _ _ e1]; exact hn)), fun a ha => ?_⟩
    have s2 : Same H1 (upd H1 a (.lst vs)) := same_upd ha
    exact q _ _ (f1.trans (Fr.of s2)) (o1.same s2) ⟨a, vs, rfl, o1.dom.free ha, upd_same, Reps.fr (Fr.of s2) _ _ r1⟩
/-- a built-in of several arguments -/
theorem ev_callA {r : List V → Hp → VK → Prop} {g : List PyData → Option PyData} (h : EvA tl L) (hr : RDC r g) : Ev (tCB r tl) (fCB g L) := fun w en σ H d en' o e Q q => by
  unfold fCB at e
  cases e1 : L en with
  | none => rw [e1] at e; cases e
  | some p =>
    rw [e1] at e
    simp only [Option.bind_some] at e
    cases e3 : g p.1 with
    | none => rw [e3] at e; cases e
    | some z =>
      rw [e3] at e
      cases e
      refine h w en σ H p.1 p.2 o e1 _ fun vs H1 f1 o1 r1 => ?_
      exact hr w.M H1 vs _ _ o1.dom r1 e3 _ fun v H3 s3 r3 => q v H3 (f1.trans (Fr.of s3)) (o1.same s3) r3
end

/-! ### operators -/
omit [TabOf] in
def gII (f : Int → Int → Int) : PyData → PyData → Option PyData
  | .int i, .int j => some (.int (f i j))
  | _, _ => none
omit [TabOf] in
def gIB (f : Int → Int → Bool) : PyData → PyData → Option PyData
  | .int i, .int j => some (.bool (f i j))
  | _, _ => none
omit [TabOf] in
def gIIc (c : Int → Int → Bool) (f : Int → Int → Int) : PyData → PyData → Option PyData
  | .int i, .int j => if c i j = true then some (.int (f i j)) else none
  | _, _ => none
theorem rd_II (f : Int → Int → Int) : RD2 (rI0 fun i j => .int (f i j)) (gII f) := fun M H x y dx dy dz D rx ry e Q q => by
  unfold gII at e
  split at e
  · cases e
    have rx : x = _ := rx
    have ry : y = _ := ry
    subst rx ry
    exact ⟨_, _, rfl, rfl, q _ H (Same.refl H) rfl⟩
  · cases e
theorem rd_IB (f : Int → Int → Bool) : RD2 (rI0 fun i j => .bl (f i j)) (gIB f) := fun M H x y dx dy dz D rx ry e Q q => by
  unfold gIB at e
  split at e
  · cases e
    have rx : x = _ := rx
    have ry : y = _ := ry
    subst rx ry
    exact ⟨_, _, rfl, rfl, q _ H (Same.refl H) rfl⟩
  · cases e
theorem rd_IIc {C : Int → Int → Prop} {c : Int → Int → Bool} (hc : ∀ i j, c i j = true → C i j) (f : Int → Int → Int) : RD2 (rI C fun i j => .int (f i j)) (gIIc c f) := fun M H x y dx dy dz D rx ry e Q q => by
  unfold gIIc at e
  split at e
  · split at e
    · rename_i h
      cases e
      have rx : x = _ := rx
      have ry : y = _ := ry
      subst rx ry
      exact ⟨_, _, rfl, rfl, hc _ _ h, q _ H (Same.refl H) rfl⟩
    · cases e
  · cases e
end N

set_option Elab.async false
set_option linter.all false
set_option maxRecDepth 100000
set_option maxHeartbeats 4000000
/-! N3: the operators and built-ins over data. -/
namespace N
open PySem PySem.Spec PyProof.Rows L2
variable [TabOf]
theorem TRep.dp {K : PySem.W.Frag} {M : Addr → Prop} {H : Hp} {d : PyData} {v : V} (h : TRep M H d v) : Dp K H v d := by
  cases d with
  | list ds =>
    obtain ⟨a, vs, rfl, r, q⟩ := h
    exact .lst (.inl (.inl r)) (Reps.dp ds vs q)
  | _ => exact Rep.dp (M := M) _ _ h
/-- a list or a tuple that is read -/
theorem TRep.seq {M : Addr → Prop} {H : Hp} {d : PyData} {v : V} {ds : List PyData} (h : TRep M H d v) (e : d = .list ds ∨ d = .tuple ds) : ∃ a vs, v = .ref a ∧ (∀ K, SqL K H a vs ∨ SqT K H a vs) ∧ Reps M H ds vs := by
  rcases e with rfl | rfl
  · obtain ⟨a, vs, rfl, r, q⟩ := h
    exact ⟨a, vs, rfl, fun _ => .inl (.inl (.inl r)), q⟩
  · obtain ⟨a, vs, rfl, n, r, q⟩ := h
    exact ⟨a, vs, rfl, fun _ => .inr (.inl (.inl r)), q⟩

/-! ### == and != -/
omit [TabOf] in
def gEq : PyData → PyData → Option PyData := fun d e => if (SeqAt.shaped d && SeqAt.shaped e) = true then some (.bool (PyData.eqv d e)) else none
omit [TabOf] in
def gNe : PyData → PyData → Option PyData := fun d e => if (SeqAt.shaped d && SeqAt.shaped e) = true then some (.bool (!PyData.eqv d e)) else none
theorem rd_eqD {K : PySem.W.Frag} : RD2 (rEqD K) gEq := fun M H x y dx dy dz D rx ry e Q q => by
  unfold gEq at e
  split at e
  · rename_i h
    obtain ⟨h1, h2⟩ := Bool.and_eq_true_iff.mp h
    cases e
    exact ⟨dx, dy, Rep.dp _ _ rx, ry.dp, h1, h2, q _ H (Same.refl H) rfl⟩
  · cases e
theorem rd_neD {K : PySem.W.Frag} : RD2 (rNeD K) gNe := fun M H x y dx dy dz D rx ry e Q q => by
  unfold gNe at e
  split at e
  · rename_i h
    obtain ⟨h1, h2⟩ := Bool.and_eq_true_iff.mp h
    cases e
    exact ⟨dx, dy, Rep.dp _ _ rx, ry.dp, h1, h2, q _ H (Same.refl H) rfl⟩
  · cases e

/-! ### in, not in -/
omit [TabOf] in
def rInX (K : PySem.W.Frag) (neg : Bool) : R2 := fun x y H Q => ∃ d e ds, Dp K H x d ∧ Dp K H y e ∧ (e = .list ds ∨ e = .tuple ds) ∧ SeqAt.shaped d = true ∧ SeqAt.shaped e = true ∧ Q (.bl (if neg then !(ds.any fun z => PyData.eqv z d) else (ds.any fun z => PyData.eqv z d))) H
theorem canLay_list {ds : List PyData} (h : SeqAt.shaped (.list ds) = true) : PyData.canLayAll0 ds = true := by
  have h1 := SeqAt.canLay_of_shaped h
  simpa [PyData.canLay0] using h1
theorem canLay_tup {ds : List PyData} (h : SeqAt.shaped (.tuple ds) = true) : PyData.canLayAll0 ds = true := by
  have h1 := SeqAt.canLay_of_shaped h
  simpa [PyData.canLay0] using h1
section
variable {X : Cx}
theorem op_inX (hu : X.A.units + 65 < cLine) : OpR X (compareOp .In) (rInX X.K false) := by
  intro pins s σ H x y v u Q I rx ry h
  obtain ⟨d, e, ds, hd, he, ee, sd, se, q⟩ := h
  obtain ⟨as, r1⟩ := Dp.reads I d x v hd rx
  obtain ⟨bs, r2⟩ := Dp.reads I e y u he ry
  rcases ee with rfl | rfl
  · exact SeqAt.in_list_reads r2 r1 (canLay_list se) (SeqAt.canLay_of_shaped sd) (room_in_shaped sd hu) ⟨.bl _, H, I, rfl, q⟩
  · exact SeqAt.in_tuple_reads r2 r1 (canLay_tup se) (SeqAt.canLay_of_shaped sd) (room_in_shaped sd hu) ⟨.bl _, H, I, rfl, q⟩
theorem op_notInX (hu : X.A.units + 65 < cLine) : OpR X (compareOp .NotIn) (rInX X.K true) := by
  intro pins s σ H x y v u Q I rx ry h
  obtain ⟨d, e, ds, hd, he, ee, sd, se, q⟩ := h
  obtain ⟨as, r1⟩ := Dp.reads I d x v hd rx
  obtain ⟨bs, r2⟩ := Dp.reads I e y u he ry
  rcases ee with rfl | rfl
  · exact SeqAt.notIn_list_reads r2 r1 (canLay_list se) (SeqAt.canLay_of_shaped sd) (room_in_shaped sd hu) ⟨.bl _, H, I, rfl, q⟩
  · exact SeqAt.notIn_tuple_reads r2 r1 (canLay_tup se) (SeqAt.canLay_of_shaped sd) (room_in_shaped sd hu) ⟨.bl _, H, I, rfl, q⟩
end
omit [TabOf] in
def gIn (neg : Bool) : PyData → PyData → Option PyData := fun d e => match e with
  | .list ds => if (SeqAt.shaped d && SeqAt.shaped (.list ds)) = true then some (.bool (if neg then !(ds.any fun z => PyData.eqv z d) else (ds.any fun z => PyData.eqv z d))) else none
  | .tuple ds => if (SeqAt.shaped d && SeqAt.shaped (.tuple ds)) = true then some (.bool (if neg then !(ds.any fun z => PyData.eqv z d) else (ds.any fun z => PyData.eqv z d))) else none
  | _ => none
theorem rd_in {K : PySem.W.Frag} {neg : Bool} : RD2 (rInX K neg) (gIn neg) := fun M H x y dx dy dz D rx ry e Q q => by
  unfold gIn at e
  split at e
  · split at e
    · rename_i ds h
      obtain ⟨h1, h2⟩ := Bool.and_eq_true_iff.mp h
      cases e
      exact ⟨dx, _, ds, Rep.dp _ _ rx, ry.dp, .inl rfl, h1, h2, q _ H (Same.refl H) rfl⟩
    · cases e
  · split at e
    · rename_i ds h
      obtain ⟨h1, h2⟩ := Bool.and_eq_true_iff.mp h
      cases e
      exact ⟨dx, _, ds, Rep.dp _ _ rx, ry.dp, .inr rfl, h1, h2, q _ H (Same.refl H) rfl⟩
    · cases e
  · cases e

/-! ### ints of a row of data -/
omit [TabOf] in
def intsOf : List PyData → Option (List Int)
  | [] => some []
  | .int i :: ds => (intsOf ds).map (i :: ·)
  | _ :: _ => none
theorem intsOf_eq : ∀ {ds : List PyData} {ns : List Int}, intsOf ds = some ns → ds = ns.map PyData.int
  | [], _, h => by cases h; rfl
  | .int i :: ds, _, h => by
    unfold intsOf at h
    cases e : intsOf ds with
    | none => rw [e] at h; cases h
    | some ns =>
      rw [e] at h
      cases h
      rw [intsOf_eq e]
      rfl
  | .none :: _, _, h => by cases h
  | .bool _ :: _, _, h => by cases h
  | .str _ :: _, _, h => by cases h
  | .list _ :: _, _, h => by cases h
  | .tuple _ :: _, _, h => by cases h
  | .dict _ :: _, _, h => by cases h
theorem intsOf_map : ∀ (ns : List Int), intsOf (ns.map PyData.int) = some ns
  | [] => rfl
  | n :: ns => by
    show (intsOf (ns.map PyData.int)).map (n :: ·) = _
    rw [intsOf_map ns]
    rfl
omit [TabOf] in
def boolsOf : List PyData → Option (List Bool)
  | [] => some []
  | .bool i :: ds => (boolsOf ds).map (i :: ·)
  | _ :: _ => none
theorem boolsOf_eq : ∀ {ds : List PyData} {ns : List Bool}, boolsOf ds = some ns → ds = ns.map PyData.bool
  | [], _, h => by cases h; rfl
  | .bool i :: ds, _, h => by
    unfold boolsOf at h
    cases e : boolsOf ds with
    | none => rw [e] at h; cases h
    | some ns =>
      rw [e] at h
      cases h
      rw [boolsOf_eq e]
      rfl
  | .none :: _, _, h => by cases h
  | .int _ :: _, _, h => by cases h
  | .str _ :: _, _, h => by cases h
  | .list _ :: _, _, h => by cases h
  | .tuple _ :: _, _, h => by cases h
  | .dict _ :: _, _, h => by cases h
theorem boolsOf_map : ∀ (ns : List Bool), boolsOf (ns.map PyData.bool) = some ns
  | [] => rfl
  | n :: ns => by
    show (boolsOf (ns.map PyData.bool)).map (n :: ·) = _
    rw [boolsOf_map ns]
    rfl

/-! ### < -/
omit [TabOf] in
def rLtX (K : PySem.W.Frag) : R2 := fun x y H Q => (rI0 fun i j => .bl (decide (i < j))) x y H Q ∨ rLtT K x y H Q
theorem op_ltX {X : Cx} (hu : X.A.units < cLine) : OpR X (compareOp .Lt) (rLtX X.K) := OpR.or op_lt (op_ltT hu)
omit [TabOf] in
def gLt : PyData → PyData → Option PyData
  | .int i, .int j => some (.bool (decide (i < j)))
  | .tuple ds, .tuple es => (intsOf ds).bind fun ns => (intsOf es).map fun ms => .bool (HT.lexLt ns ms)
  | _, _ => none
theorem rd_lt {K : PySem.W.Frag} : RD2 (rLtX K) gLt := fun M H x y dx dy dz D rx ry e Q q => by
  unfold gLt at e
  split at e
  · cases e
    have rx : x = _ := rx
    have ry : y = _ := ry
    subst rx ry
    exact .inl ⟨_, _, rfl, rfl, q _ H (Same.refl H) rfl⟩
  · rename_i ds es
    cases e1 : intsOf ds with
    | none => rw [e1] at e; cases e
    | some ns =>
      rw [e1] at e
      simp only [Option.bind_some] at e
      cases e2 : intsOf es with
      | none => rw [e2] at e; cases e
      | some ms =>
        rw [e2] at e
        cases e
        obtain ⟨a, vs, rfl, n, r, k⟩ := rx
        obtain ⟨b, us, rfl, n', r', k'⟩ := ry
        rw [intsOf_eq e1] at k
        rw [intsOf_eq e2] at k'
        rw [k.ints] at r
        rw [k'.ints] at r'
        exact .inr ⟨a, b, ns, ms, rfl, rfl, .inl (.inl r), .inl (.inl r'), q _ H (Same.refl H) rfl⟩
  · cases e

/-! ### + -/
omit [TabOf] in
def rAddX (K : PySem.W.Frag) : R2 := fun x y H Q => (rI0 fun i j => .int (i + j)) x y H Q ∨ (rCatA K x y H Q ∨ rCat x y H Q)
theorem op_addX {X : Cx} : OpR X (binaryOp .Add) (rAddX X.K) := OpR.or op_add (OpR.or op_catA op_cat)
omit [TabOf] in
def gAdd : PyData → PyData → Option PyData
  | .int i, .int j => some (.int (i + j))
  | .tuple ds, .tuple es => if ds.length + es.length ≤ 100000 then some (.tuple (ds ++ es)) else none
  | .list ds, .list es => if ds.length + es.length ≤ 100000 then some (.list (ds ++ es)) else none
  | _, _ => none
theorem big {n : Nat} (h : n ≤ 100000) : n ≤ sizeLine := Nat.le_trans h (by decide)
theorem rd_add {K : PySem.W.Frag} : RD2 (rAddX K) gAdd := fun M H x y dx dy dz D rx ry e Q q => by
  unfold gAdd at e
  split at e
  · cases e
    have rx : x = _ := rx
    have ry : y = _ := ry
    subst rx ry
    exact .inl ⟨_, _, rfl, rfl, q _ H (Same.refl H) rfl⟩
  · split at e
    · rename_i ds es h
      cases e
      obtain ⟨a, vs, rfl, n, r, k⟩ := rx
      obtain ⟨b, us, rfl, n', r', k'⟩ := ry
      refine .inr (.inl ⟨a, b, vs, us, rfl, rfl, .inl (.inl r), .inl (.inl r'), big (by rw [k.length, k'.length]; exact h), fun z => ?_, fun _ z => ?_, fun _ _ p hp => ?_⟩)
      · subst z
        exact q _ H (Same.refl H) ⟨b, _, rfl, n', r', k.append k'⟩
      · subst z
        refine q _ H (Same.refl H) ⟨a, _, rfl, n, r, ?_⟩
        have k2 := k.append k'
        rw [List.append_nil] at k2
        exact k2
      · have s2 : Same H (upd H p (.tup (vs ++ us))) := same_upd hp
        exact q _ _ s2 ⟨p, _, rfl, D.free hp, upd_same, Reps.fr (Fr.of s2) _ _ (k.append k')⟩
    · cases e
  · split at e
    · rename_i ds es h
      cases e
      obtain ⟨a, vs, rfl, n, r, k⟩ := rx
      obtain ⟨b, us, rfl, r', k'⟩ := ry
      refine .inr (.inr ⟨a, b, vs, us, rfl, rfl, r, r', big (by rw [k.length, k'.length]; exact h), fun p hp => ?_⟩)
      have s2 : Same H (upd H p (.lst (vs ++ us))) := same_upd hp
      exact q _ _ s2 ⟨p, _, rfl, D.free hp, upd_same, Reps.fr (Fr.of s2) _ _ (k.append k')⟩
    · cases e
  · cases e

/-! ### * -/
omit [TabOf] in
def rMulX : R2 := fun x y H Q => (rI CMul fun i j => .int (i * j)) x y H Q ∨ rRep x y H Q
theorem op_mulX {X : Cx} : OpR X (binaryOp .Mult) rMulX := OpR.or op_mul op_rep
omit [TabOf] in
def small64 (i : Int) : Bool := decide (-(2 ^ 64) < i) && decide (i < 2 ^ 64)
omit [TabOf] in
def gMul : PyData → PyData → Option PyData
  | .int i, .int j => if (small64 i || small64 j) = true then some (.int (i * j)) else none
  | .list ds, .int k => if 0 ≤ k ∧ k ≤ 1000 ∧ ds.length ≤ 100 then some (.list (List.replicate k.toNat ds).flatten) else none
  | _, _ => none
theorem reps_replicate {M : Addr → Prop} {H : Hp} {ds : List PyData} {vs : List V} (h : Reps M H ds vs) : ∀ n, Reps M H (List.replicate n ds).flatten (List.replicate n vs).flatten
  | 0 => .nil
  | n + 1 => by
    rw [List.replicate_succ, List.replicate_succ, List.flatten_cons, List.flatten_cons]
    exact h.append (reps_replicate h n)
theorem cmul_of {i j : Int} (h : (small64 i || small64 j) = true) : CMul i j := by
  unfold small64 at h
  simp only [Bool.or_eq_true, Bool.and_eq_true, decide_eq_true_eq] at h
  exact h
theorem rd_mul : RD2 rMulX gMul := fun M H x y dx dy dz D rx ry e Q q => by
  unfold gMul at e
  split at e
  · split at e
    · rename_i h
      cases e
      have rx : x = _ := rx
      have ry : y = _ := ry
      subst rx ry
      exact .inl ⟨_, _, rfl, rfl, cmul_of h, q _ H (Same.refl H) rfl⟩
    · cases e
  · split at e
    · rename_i ds k h
      cases e
      obtain ⟨a, vs, rfl, n, r, kk⟩ := rx
      have ry : y = _ := ry
      subst ry
      obtain ⟨h0, h1, h2⟩ := h
      have hl := kk.length
      refine .inr ⟨a, k, vs, rfl, rfl, r, by omega, by omega, ?_, fun p hp => ?_⟩
      · have : vs.length * k.toNat ≤ 100 * 1000 := Nat.mul_le_mul (by omega) (by omega)
        exact big (by omega)
      · have s2 : Same H (upd H p (.lst (List.replicate k.toNat vs).flatten)) := same_upd hp
        exact q _ _ s2 ⟨p, _, rfl, D.free hp, upd_same, Reps.fr (Fr.of s2) _ _ (reps_replicate kk _)⟩
    · cases e
  · cases e
omit [TabOf] in
def gMod : PyData → PyData → Option PyData := gIIc (fun _ j => decide (0 < j)) fun i j => i % j
theorem rd_mod : RD2 (rI (fun _ j => 0 < j) fun i j => .int (i % j)) gMod := rd_IIc (fun _ _ h => of_decide_eq_true h) _
omit [TabOf] in
def gDiv : PyData → PyData → Option PyData := gIIc (fun _ j => decide (0 < j) && decide (j < 1073741824)) fun i j => i / j
theorem rd_div : RD2 (rI CDiv fun i j => .int (i / j)) gDiv := rd_IIc (fun _ _ h => by
  obtain ⟨h1, h2⟩ := Bool.and_eq_true_iff.mp h
  exact ⟨of_decide_eq_true h1, of_decide_eq_true h2⟩) _
omit [TabOf] in
def gPow : PyData → PyData → Option PyData := gIIc (fun i j => decide (0 ≤ j) && decide (j ≤ 1000) && small64 i && small64 (-i)) fun i j => i ^ j.toNat
theorem rd_pow : RD2 (rI CPow fun i j => .int (i ^ j.toNat)) gPow := rd_IIc (fun i j h => by
  unfold small64 at h
  simp only [Bool.and_eq_true, decide_eq_true_eq] at h
  obtain ⟨⟨⟨h1, h2⟩, h3, h4⟩, h5, h6⟩ := h
  exact ⟨h1, by omega, by omega⟩) _
omit [TabOf] in
/-- is None, is not None -/
def isNone : PyData → Bool
  | .none => true
  | _ => false
omit [TabOf] in
def gIsN : PyData → PyData → Option PyData
  | d, .none => some (.bool (isNone d))
  | _, _ => none
omit [TabOf] in
def gNotN : PyData → PyData → Option PyData
  | d, .none => some (.bool (!isNone d))
  | _, _ => none
theorem rep_non {M : Addr → Prop} {H : Hp} : ∀ {d : PyData} {x : V}, Rep M H d x → decide (x = V.non) = isNone d
  | .none, x, r => by rw [show x = V.non from r]; rfl
  | .bool b, x, r => by rw [show x = V.bl b from r]; rfl
  | .int b, x, r => by rw [show x = V.int b from r]; rfl
  | .str b, x, r => by rw [show x = V.str b from r]; rfl
  | .list ds, x, r => by obtain ⟨a, vs, rfl, _⟩ := r; rfl
  | .tuple ds, x, r => by obtain ⟨a, vs, rfl, _⟩ := r; rfl
  | .dict _, x, r => (show False from r).elim
theorem rd_isN : RD2 (fun x y H Q => y = .non ∧ Q (.bl (decide (x = .non))) H) gIsN := fun M H x y dx dy dz D rx ry e Q q => by
  unfold gIsN at e
  split at e
  · cases e
    have ry : y = _ := ry
    exact ⟨ry, by rw [rep_non rx]; exact q _ H (Same.refl H) rfl⟩
  · cases e
theorem rd_notN : RD2 (fun x y H Q => y = .non ∧ Q (.bl (!decide (x = .non))) H) gNotN := fun M H x y dx dy dz D rx ry e Q q => by
  unfold gNotN at e
  split at e
  · cases e
    have ry : y = _ := ry
    exact ⟨ry, by rw [rep_non rx]; exact q _ H (Same.refl H) rfl⟩
  · cases e
/-! ### one operand -/
omit [TabOf] in
def gNeg : PyData → Option PyData
  | .int i => some (.int (-i))
  | _ => none
theorem rd_neg : RD1 (rU fun i => .int (-i)) gNeg := fun M H x dx dz D rx e Q q => by
  unfold gNeg at e
  split at e
  · cases e
    exact ⟨_, rx, q _ H (Same.refl H) rfl⟩
  · cases e
omit [TabOf] in
def gLen : PyData → Option PyData
  | .list ds => some (.int ds.length)
  | .tuple ds => some (.int ds.length)
  | _ => none
theorem rd_len {K : PySem.W.Frag} : RD1 (fun x H Q => ∃ p ys, [x] = [V.ref p] ∧ (SqL K H p ys ∨ SqT K H p ys) ∧ Q (.int ys.length) H) gLen := fun M H x dx dz D rx e Q q => by
  have go : ∀ ds, dx = .list ds ∨ dx = .tuple ds → dz = .int ds.length → ∃ p ys, [x] = [V.ref p] ∧ (SqL K H p ys ∨ SqT K H p ys) ∧ Q (.int ys.length) H := fun ds h hz => by
    obtain ⟨a, vs, rfl, r, k⟩ := rx.seq h
    refine ⟨a, vs, rfl, r K, ?_⟩
    rw [k.length]
    subst hz
    exact q _ H (Same.refl H) rfl
  unfold gLen at e
  split at e
  · cases e
    exact go _ (.inl rfl) rfl
  · cases e
    exact go _ (.inr rfl) rfl
  · cases e
omit [TabOf] in
def gSum : PyData → Option PyData
  | .list ds => (intsOf ds).map fun ns => .int ns.sum
  | _ => none
theorem rd_sum {K : PySem.W.Frag} : RD1 (fun x => rSum K [x]) gSum := fun M H x dx dz D rx e Q q => by
  unfold gSum at e
  split at e
  · rename_i ds
    cases e1 : intsOf ds with
    | none => rw [e1] at e; cases e
    | some ns =>
      rw [e1] at e
      cases e
      obtain ⟨a, vs, rfl, r, k⟩ := rx
      rw [intsOf_eq e1] at k
      rw [k.ints] at r
      exact ⟨a, ns, rfl, .inl (.inl r), q _ H (Same.refl H) rfl⟩
  · cases e
omit [TabOf] in
def gAll : PyData → Option PyData
  | .list ds => (boolsOf ds).map fun ns => .bool (ns.all id)
  | _ => none
omit [TabOf] in
def gAny : PyData → Option PyData
  | .list ds => (boolsOf ds).map fun ns => .bool (ns.any id)
  | _ => none
theorem rd_all {K : PySem.W.Frag} : RD1 (fun x => rAll K [x]) gAll := fun M H x dx dz D rx e Q q => by
  unfold gAll at e
  split at e
  · rename_i ds
    cases e1 : boolsOf ds with
    | none => rw [e1] at e; cases e
    | some ns =>
      rw [e1] at e
      cases e
      obtain ⟨a, vs, rfl, r, k⟩ := rx
      rw [boolsOf_eq e1] at k
      rw [k.bools] at r
      exact ⟨a, ns, rfl, .inl (.inl r), q _ H (Same.refl H) rfl⟩
  · cases e
theorem rd_any {K : PySem.W.Frag} : RD1 (fun x => rAny K [x]) gAny := fun M H x dx dz D rx e Q q => by
  unfold gAny at e
  split at e
  · rename_i ds
    cases e1 : boolsOf ds with
    | none => rw [e1] at e; cases e
    | some ns =>
      rw [e1] at e
      cases e
      obtain ⟨a, vs, rfl, r, k⟩ := rx
      rw [boolsOf_eq e1] at k
      rw [k.bools] at r
      exact ⟨a, ns, rfl, .inl (.inl r), q _ H (Same.refl H) rfl⟩
  · cases e
omit [TabOf] in
def gAbs : PyData → Option PyData
  | .int i => some (.int (if i < 0 then -i else i))
  | _ => none
theorem rd_abs : RD1 (fun x H Q => ∃ i, [x] = [V.int i] ∧ Q (.int (if i < 0 then -i else i)) H) gAbs := fun M H x dx dz D rx e Q q => by
  unfold gAbs at e
  split at e
  · cases e
    have rx : x = _ := rx
    subst rx
    exact ⟨_, rfl, q _ H (Same.refl H) rfl⟩
  · cases e
omit [TabOf] in
def gInt : PyData → Option PyData
  | .int i => some (.int i)
  | _ => none
theorem rd_int : RD1 (fun x H Q => (∃ i, [x] = [V.int i] ∧ Q (.int i) H) ∨ ∃ k, [x] = [V.bl k] ∧ Q (.int (if k then 1 else 0)) H) gInt := fun M H x dx dz D rx e Q q => by
  unfold gInt at e
  split at e
  · cases e
    have rx : x = _ := rx
    subst rx
    exact .inl ⟨_, rfl, q _ H (Same.refl H) rfl⟩
  · cases e
omit [TabOf] in
/-- tuple(x), list(x) -/
def gTuple : PyData → Option PyData
  | .list ds => some (.tuple ds)
  | .tuple ds => some (.tuple ds)
  | _ => none
theorem rd_tuple {K : PySem.W.Frag} : RD1 (fun x H Q => ∃ p ys, [x] = [V.ref p] ∧ ((SqL K H p ys ∧ ∀ l, H l = none → Q (.ref l) (upd H l (.tup ys))) ∨ (SqT K H p ys ∧ Q (.ref p) H))) gTuple := fun M H x dx dz D rx e Q q => by
  unfold gTuple at e
  split at e
  · cases e
    obtain ⟨a, vs, rfl, r, k⟩ := rx
    refine ⟨a, vs, rfl, .inl ⟨.inl (.inl r), fun p hp => ?_⟩⟩
    have s2 : Same H (upd H p (.tup vs)) := same_upd hp
    exact q _ _ s2 ⟨p, _, rfl, D.free hp, upd_same, Reps.fr (Fr.of s2) _ _ k⟩
  · cases e
    obtain ⟨a, vs, rfl, n, r, k⟩ := rx
    exact ⟨a, vs, rfl, .inr ⟨.inl (.inl r), q _ H (Same.refl H) ⟨a, vs, rfl, n, r, k⟩⟩⟩
  · cases e
omit [TabOf] in
def gList : PyData → Option PyData
  | .list ds => some (.list ds)
  | .tuple ds => some (.list ds)
  | _ => none
theorem rd_list {K : PySem.W.Frag} : RD1 (fun x H Q => ∃ p ys, [x] = [V.ref p] ∧ (SqL K H p ys ∨ SqT K H p ys) ∧ ∀ l, H l = none → Q (.ref l) (upd H l (.lst ys))) gList := fun M H x dx dz D rx e Q q => by
  have go : ∀ ds, dx = .list ds ∨ dx = .tuple ds → dz = .list ds → ∃ p ys, [x] = [V.ref p] ∧ (SqL K H p ys ∨ SqT K H p ys) ∧ ∀ l, H l = none → Q (.ref l) (upd H l (.lst ys)) := fun ds h hz => by
    obtain ⟨a, vs, rfl, r, k⟩ := rx.seq h
    refine ⟨a, vs, rfl, r K, fun p hp => ?_⟩
    have s2 : Same H (upd H p (.lst vs)) := same_upd hp
    subst hz
    exact q _ _ s2 ⟨p, _, rfl, D.free hp, upd_same, Reps.fr (Fr.of s2) _ _ k⟩
  unfold gList at e
  split at e
  · cases e
    exact go _ (.inl rfl) rfl
  · cases e
    exact go _ (.inr rfl) rfl
  · cases e
/-! ### two ints: max, min -/
omit [TabOf] in
def gMax2 : List PyData → Option PyData
  | [.int i, .int j] => some (.int (if j > i then j else i))
  | _ => none
omit [TabOf] in
def gMin2 : List PyData → Option PyData
  | [.int i, .int j] => some (.int (if j < i then j else i))
  | _ => none
theorem reps_two {M : Addr → Prop} {H : Hp} {i j : Int} {xs : List V} (h : Reps M H [.int i, .int j] xs) : xs = [.int i, .int j] := Reps.ints (ns := [i, j]) h
theorem rd_max2 : RDC (fun xs H Q => ∃ i j, xs = [V.int i, V.int j] ∧ Q (.int (if j > i then j else i)) H) gMax2 := fun M H xs ds dz D r e Q q => by
  unfold gMax2 at e
  split at e
  · cases e
    exact ⟨_, _, reps_two r, q _ H (Same.refl H) rfl⟩
  · cases e
theorem rd_min2 : RDC (fun xs H Q => ∃ i j, xs = [V.int i, V.int j] ∧ Q (.int (if j < i then j else i)) H) gMin2 := fun M H xs ds dz D r e Q q => by
  unfold gMin2 at e
  split at e
  · cases e
    exact ⟨_, _, reps_two r, q _ H (Same.refl H) rfl⟩
  · cases e
/-! ### an item -/
theorem atI_reps {M : Addr → Prop} {H : Hp} {ds : List PyData} {vs : List V} {i : Int} {d : PyData} (r : Reps M H ds vs) (h : atI ds i = some d) : ∃ v, atI vs i = some v ∧ Rep M H d v := by
  unfold atI at h ⊢
  rw [r.length]
  cases e : ixN ds.length i with
  | none => rw [e] at h; cases h
  | some j =>
    rw [e] at h
    exact r.get h
omit [TabOf] in
def gIx : PyData → PyData → Option PyData
  | .list ds, .int i => atI ds i
  | .tuple ds, .int i => atI ds i
  | _, _ => none
theorem rd_ix {K : PySem.W.Frag} : RD2 (rIx K) gIx := fun M H x y dx dy dz D rx ry e Q q => by
  unfold gIx at e
  split at e
  · obtain ⟨a, vs, rfl, n, r, k⟩ := rx
    have ry : y = _ := ry
    subst ry
    obtain ⟨v, h1, h2⟩ := atI_reps k e
    exact .inl ⟨a, vs, _, v, rfl, rfl, .inl (.inl r), h1, q _ H (Same.refl H) h2⟩
  · obtain ⟨a, vs, rfl, n, r, k⟩ := rx
    have ry : y = _ := ry
    subst ry
    obtain ⟨v, h1, h2⟩ := atI_reps k e
    exact .inr (.inl ⟨a, vs, _, v, rfl, rfl, .inl (.inl r), h1, q _ H (Same.refl H) h2⟩)
  · cases e
omit [TabOf] in
/-- an item of a list that changes -/
def fIxM (i : Nat) (Fb : FE) : FE := fun en => (Fb en).bind fun p => match p.2[i]?, p.1 with | some (.mu ds), .int j => (atI ds j).map fun d => (d, p.2) | _, _ => none
theorem ev_ixM {K : PySem.W.Frag} {tb : TE} {Fb : FE} {i : Nat} (hi : ∀ en x e', Fb en = some (x, e') → ∀ ds, e'[i]? = some (.mu ds) → ∃ ds', en[i]? = some (.mu ds')) (hb : Ev tb Fb) : Ev (tOp (rIx K) (tVar i) tb) (fIxM i Fb) := fun w en σ H d en' o e Q q => by
  unfold fIxM at e
  cases e1 : Fb en with
  | none => rw [e1] at e; cases e
  | some p =>
    rw [e1] at e
    simp only [Option.bind_some] at e
    split at e
    · rename_i ds j h1 h2
      cases e3 : atI ds j with
      | none => rw [e3] at e; cases e
      | some z =>
        rw [e3] at e
        cases e
        obtain ⟨ds', h0⟩ := hi _ _ _ e1 ds h1
        obtain ⟨a, vs, a1, a2, a3, a4⟩ := o.mu h0
        refine ⟨.ref a, a2, ?_⟩
        refine hb w en σ H p.1 p.2 o e1 _ fun y H1 f1 o1 r1 => ?_
        rw [h2] at r1
        have r1 : y = _ := r1
        subst r1
        obtain ⟨a', vs', b1, b2, b3, b4⟩ := o1.mu h1
        have ea : a' = a := by
          rw [a2] at b2
          cases b2
          rfl
        subst ea
        obtain ⟨v, h1, h2⟩ := atI_reps b4 e3
        exact .inl ⟨_, vs', _, v, rfl, rfl, .inl (.inl b3), h1, q v H1 f1 o1 h2⟩
    · cases e
end N

set_option Elab.async false
set_option linter.all false
set_option maxRecDepth 100000
set_option maxHeartbeats 4000000
/-! N4: sorted, min, max of lists and tuples; isinstance; slices; list(range()). -/
namespace N
open PySem PySem.Spec PyProof.Rows L2
variable [TabOf]
/-! ### sorted of a list or a tuple -/
section
variable {prog : Program} {w : World} {A : Around} {E : Value → Shared → Prop} {s : Shared}
omit [TabOf] in
/-- a plain list or tuple -/
def IsSq (h : Heap) (l : Addr) (vs : List Value) : Prop := ∃ o T n, h.get? l = some o ∧ o.cls = .type T ∧ (T = "list" ∨ T = "tuple") ∧ o.data = .seq vs.toArray n
theorem collect_sq {l : Addr} {vs : List Value} {Q : List Value → Shared → Prop} (hl : IsSq s.heap l vs)
    (h : Q vs { s with heap := (s.heap.push (seqObj "list" #[] 0)).update s.heap.objs.size (Obj.mapSeq (· ++ vs.toArray)) }) (hsz : vs.length ≤ sizeLine) :
    wpAny (model prog w) A (collect (.ref l)) Q E s := by
  obtain ⟨o, T, n, ho, hc, hT, hd⟩ := id hl
  unfold collect
  refine wpAny_bind (wpAny_runValue (codeAny_builtin entry_proto_collect' ?_))
  show wpAny _ _ (do again (.builtin "list.__iadd__" ⟨[← newList [], .ref l], []⟩)) _ _ s
  refine wpAny_bind (wpAny_newList (wpAny_pure ⟨Code.quiet_builtin _ (by decide +kernel), codeAny_builtin entry_list_iadd' ?_⟩))
  show wpAny _ _ (Builtin.List.listExtendWith (.ref s.heap.objs.size) (.ref l) (.ref s.heap.objs.size)) _ _ { s with heap := s.heap.push (seqObj "list" #[] 0) }
  unfold Builtin.List.listExtendWith
  have ho' : (s.heap.push (seqObj "list" #[] 0)).get? l = some o := Heap.get?_push_of_some _ ho
  refine wpAny_bind (wpAny_typeOf (T := T) ⟨o, ho', hc⟩ ?_)
  have ht : (Value.type T == Value.type "list" || Value.type T == Value.type "tuple") = true := by
    rcases hT with rfl | rfl
    · decide
    · decide
  rw [if_pos (by rw [Bool.or_assoc, ht, Bool.or_true])]
  refine wpAny_bind (listItems_at ho' hd ?_)
  refine wpAny_bind (listItems_at (xs := #[]) (n := 0) (Heap.get?_push_size _ rfl) rfl ?_)
  rw [if_neg (by simp)]
  refine wpAny_bind (listUpdate_at (xs := #[]) (n := 0) (Heap.get?_push_size _ rfl) rfl ?_ (Nat.zero_le _) (by show (#[] ++ vs.toArray).size ≤ sizeLine + 1; simp only [Array.size_append, List.size_toArray, List.length_nil]; omega))
  refine wpAny_pure ?_
  show wpAny (model prog w) A (do
      let o ← load s.heap.objs.size
      match o.data with
      | .seq xs _ => pure xs.toList
      | _ => unsupported "internal:collect") Q E { s with heap := (s.heap.push (seqObj "list" #[] 0)).update s.heap.objs.size (Obj.mapSeq (· ++ vs.toArray)) }
  refine wpAny_bind (wpAny_load (get?_update_seq (Heap.get?_push_size _ rfl) _) ?_)
  show wpAny _ _ (pure ((#[] : Array Value) ++ vs.toArray).toList) Q E _
  rw [show ((#[] : Array Value) ++ vs.toArray).toList = vs by simp]
  exact wpAny_pure h
open PySem.W in
theorem sorted_of_sq {l : Addr} {vs : List Value} {kw : List (Str × Value)} {Q : Value → Shared → Prop} (hl : IsSq s.heap l vs) (hL : vs.length ≤ sizeLine) (ha1 : argsOk "sorted" ⟨[.ref l], kw⟩) (ha2 : ∀ x, argsOk "list.sort" ⟨[.ref x], kw⟩)
    (body : ∀ E' : Value → Shared → Prop, wpAny (model prog w) A.in1.in1 (Builtin.«list.sort» ⟨[.ref (s.heap.objs.size + 1)], kw⟩) (fun f s' => f = .done (.ret .none) ∧ Q (.ref (s.heap.objs.size + 1)) s') E' { s with heap := PySem.W.copyHeap s.heap vs }) :
    wpAny (model prog w) A (call (.builtin "sorted") [.ref l] kw) Q E s := by
  refine call_function_entry_kw kind_sorted plain_sorted entry_sorted ha1 ?_
  unfold Builtin.«sorted»
  refine wpAny_bind (m := checkCount "sorted" 1 1 _) (wpAny_pure ?_)
  refine wpAny_bind (collect_sq hl ?_ hL)
  refine wpAny_bind (wpAny_newList ?_ hL)
  have hsz : ((s.heap.push (seqObj "list" #[] 0)).update s.heap.objs.size (Obj.mapSeq (· ++ vs.toArray))).objs.size = s.heap.objs.size + 1 := by
    rw [Heap.size_update, size_push']
  show wpAny _ _ _ _ _ { s with heap := PySem.W.copyHeap s.heap vs }
  rw [hsz]
  refine wpAny_bind (wpAny_holding (wpAny_call_entry_kw slot_list_sort ⟨_, PySem.W.copyHeap_at s.heap vs, rfl⟩ entry_list_sort ?body (ha2 _)))
  case body =>
    show wpAny (model prog w) A.in1.in1 (Builtin.«list.sort» ⟨[.ref (s.heap.objs.size + 1)], kw⟩) _ _ _
    refine wpAny_mono (body _) (fun f s' hf => ?_) fun _ _ e => e
    obtain ⟨rfl, hq⟩ := hf
    exact ⟨_, rfl, wpAny_pure ⟨_, rfl, hq⟩⟩
open PySem.W in
theorem sorted_sq_data {β : Type} {R : Value → β → Prop} {enc : β → PyData} {vs : List Value} {bs : List β} {l : Addr} {Q : Value → Shared → Prop} (hl : IsSq s.heap l vs) (e : EachIs R vs bs) (er : EachIs (fun v b => ∃ as, Reads s.heap v (enc b) as) vs bs) (hal : AllAlike (bs.map enc)) (hk : Sortable (bs.map enc)) (hL : bs.length ≤ sizeLine)
    (hu : ∀ b, b ∈ bs → A.units + 2 + (enc b).depth < cLine) (h : ∀ out, out.length = bs.length → EachIs R out (bs.mergeSort (dataLe false enc)) → Q (.ref (s.heap.objs.size + 1)) { s with heap := sortedAll s.heap vs (List.toArray out) }) :
    wpAny (model prog w) A (call (.builtin "sorted") [.ref l]) Q E s := by
  have er' : EachIs (fun v b => ∃ as, Reads (sortingHeap (copyHeap s.heap vs) (s.heap.objs.size + 1) vs) v (enc b) as) vs bs := er.mono fun _ _ ⟨as, r⟩ => ⟨as, PyProof.Rows.Reads.keeps (fun _ _ => sorting_copy_old) r⟩
  have S := SortsAt.data (prog := prog) (w := w) (A := A.in1.in1) (s := { s with heap := sortingHeap (copyHeap s.heap vs) (s.heap.objs.size + 1) vs }) (each_map (R := fun v d => ∃ as, Reads (sortingHeap (copyHeap s.heap vs) (s.heap.objs.size + 1) vs) v d as) enc er') hal hk (bound_map (A := A.in1.in1) hu)
  have hLv : vs.length ≤ sizeLine := by rw [e.length]; exact hL
  exact sorted_of_sq hl hLv (args_sorted1 _) (fun _ => args_list_sort _) fun _ => list_sort_vals (s := { s with heap := copyHeap s.heap vs }) (copyHeap_at s.heap vs) S hLv
    ⟨rfl, h _ (by rw [sortVals_length false rfl]; exact e.length) (sortVals_data false e er' hal)⟩
end
section
variable {X : Cx} {pins : List (Addr × Obj)} {σ : L2.St} {H : Hp} {s : Shared}
theorem isSq_of {a : Addr} {xs : List V} (I : Inv X pins σ H s) (h : SqL X.K H a xs ∨ SqT X.K H a xs) : ∃ its : List Value, Vals xs its ∧ IsSq s.heap a its ∧ xs.length ≤ sizeLine := by
  rcases h with h | h
  · obtain ⟨its, r, ⟨o, n, ho, hc, _, hd⟩, z⟩ := I.list h
    exact ⟨its, r, ⟨o, "list", n, ho, hc, .inl rfl, hd⟩, z⟩
  · obtain ⟨its, r, ⟨o, ho, hc, n, hd⟩, z⟩ := I.tuple h
    exact ⟨its, r, ⟨o, "tuple", n, ho, hc, .inr rfl, hd⟩, z⟩
theorem each_pairs (I : Inv X pins σ H s) : ∀ {bs : List (PyData × V)} {its : List Value}, Vals (bs.map Prod.snd) its → (∀ b ∈ bs, Dp X.K H b.2 b.1) →
    PySem.W.EachIs (fun v (b : PyData × V) => RelV b.2 v) its bs ∧ PySem.W.EachIs (fun v (b : PyData × V) => ∃ as, Reads s.heap v b.1 as) its bs
  | [], _, r, _ => by
    rw [List.map_nil] at r
    cases r
    exact ⟨.nil, .nil⟩
  | b :: bs, _, r, h => by
    rw [List.map_cons] at r
    cases r with
    | cons r1 r2 =>
      obtain ⟨h1, h2⟩ := each_pairs I r2 fun c hc => h c (List.mem_cons_of_mem _ hc)
      exact ⟨.cons r1 h1, .cons (Dp.reads I b.1 b.2 _ (h b List.mem_cons_self) r1) h2⟩
theorem vals_of_each : ∀ {bs : List (PyData × V)} {its : List Value}, PySem.W.EachIs (fun v (b : PyData × V) => RelV b.2 v) its bs → Vals (bs.map Prod.snd) its
  | _, _, .nil => .nil
  | _, _, .cons h t => .cons h (vals_of_each t)
omit [TabOf] in
def rSortX (K : PySem.W.Frag) : List V → Hp → VK → Prop := fun vs H Q => ∃ (a : Addr) (bs : List (PyData × V)), vs = [V.ref a] ∧ (SqL K H a (bs.map Prod.snd) ∨ SqT K H a (bs.map Prod.snd)) ∧ (∀ b ∈ bs, Dp K H b.2 b.1) ∧
  PySem.W.AllAlike (bs.map Prod.fst) ∧ PySem.W.Sortable (bs.map Prod.fst) ∧ (∀ b ∈ bs, b.1.depth ≤ 60) ∧
  ∀ p, H p = none → Q (.ref p) (upd H p (.lst ((bs.mergeSort (PySem.W.dataLe false Prod.fst)).map Prod.snd)))
theorem cr_sortX (hu : X.A.units + 64 < cLine) : CallR X (.builtin "sorted") (rSortX X.K) := by
  intro pins s σ H vs us Q I r h
  obtain ⟨a, bs, rfl, hs, hb, hal, hk, hd, q⟩ := h
  obtain ⟨its, rv, hl, hz⟩ := isSq_of I hs
  rw [Vals.ref1 r]
  obtain ⟨e1, e2⟩ := each_pairs I rv hb
  rw [List.length_map] at hz
  refine sorted_sq_data (enc := Prod.fst) hl e1 e2 hal hk hz (fun b h => by have := hd b h; omega) fun out ho he => ?_
  obtain ⟨ep, he'⟩ := PyProof.Rows.sortedAll_at s.heap its out.toArray
  have hlen : ((bs.mergeSort (PySem.W.dataLe false Prod.fst)).map Prod.snd).length ≤ sizeLine := by rw [List.length_map, List.length_mergeSort]; exact hz
  exact ⟨.ref _, upd H (s.heap.objs.size + 1) (.lst _), I.laid (t' := s.toks) (fun _ _ => PyProof.Rows.sortedAll_old) (Nat.le_succ _) ⟨hlen, out, ep, vals_of_each he, he'⟩, rfl, q _ (I.hok.fresh (Nat.le_succ _))⟩
end
omit [TabOf] in
def alikeB (ds : List PyData) : Bool := ds.all fun x => ds.all fun y => PySem.W.alike x y
omit [TabOf] in
def tupB : PyData → Bool
  | .tuple (_ :: _) => true
  | _ => false
omit [TabOf] in
def otherB : PyData → Bool
  | .tuple _ => false
  | .none => false
  | _ => true
omit [TabOf] in
def sortB (ds : List PyData) : Bool := alikeB ds && (ds.all tupB || ds.all otherB) && ds.all fun d => decide (d.depth ≤ 60)
theorem alikeB_ok {ds : List PyData} (h : alikeB ds = true) : PySem.W.AllAlike ds := fun d hd d' hd' => List.all_eq_true.mp (List.all_eq_true.mp h d hd) d' hd'
theorem sortB_ok {ds : List PyData} (h : sortB ds = true) : PySem.W.AllAlike ds ∧ PySem.W.Sortable ds ∧ ∀ d ∈ ds, d.depth ≤ 60 := by
  obtain ⟨h1, h2⟩ := Bool.and_eq_true_iff.mp h
  obtain ⟨h3, h4⟩ := Bool.and_eq_true_iff.mp h1
  refine ⟨alikeB_ok h3, ?_, fun d hd => of_decide_eq_true (List.all_eq_true.mp h2 d hd)⟩
  rcases Bool.or_eq_true_iff.mp h4 with h4 | h4
  · refine .inl fun d hd => ?_
    have z := List.all_eq_true.mp h4 d hd
    unfold tupB at z
    split at z
    · exact ⟨_, _, rfl⟩
    · cases z
  · refine .inr fun d hd => ?_
    have z := List.all_eq_true.mp h4 d hd
    unfold otherB at z
    split at z
    · cases z
    · cases z
    · rename_i n1 n2
      exact ⟨n2, n1⟩
omit [TabOf] in
def gSortL (ds : List PyData) : Option PyData := if sortB ds = true then some (.list (ds.mergeSort (PySem.W.dataLe false id))) else none
omit [TabOf] in
def gSorted : PyData → Option PyData
  | .list ds => gSortL ds
  | .tuple ds => gSortL ds
  | _ => none
theorem zip_reps {M : Addr → Prop} {H : Hp} : ∀ {ds : List PyData} {vs : List V}, Reps M H ds vs → (ds.zip vs).map Prod.fst = ds ∧ (ds.zip vs).map Prod.snd = vs ∧ ∀ b ∈ ds.zip vs, Rep M H b.1 b.2
  | [], _, h => by
    cases (show _ = _ from h)
    exact ⟨rfl, rfl, fun b hb => absurd hb (by simp)⟩
  | d :: ds, _, h => by
    obtain ⟨v, r, rfl, h1, h2⟩ := h
    obtain ⟨a, b, c⟩ := zip_reps h2
    refine ⟨by rw [List.zip_cons_cons, List.map_cons, a], by rw [List.zip_cons_cons, List.map_cons, b], fun p hp => ?_⟩
    rw [List.zip_cons_cons] at hp
    rcases List.mem_cons.mp hp with rfl | hp
    · exact h1
    · exact c p hp
theorem reps_pairs {M : Addr → Prop} {H : Hp} : ∀ {bs : List (PyData × V)}, (∀ b ∈ bs, Rep M H b.1 b.2) → Reps M H (bs.map Prod.fst) (bs.map Prod.snd)
  | [], _ => .nil
  | b :: bs, h => .cons (h b List.mem_cons_self) (reps_pairs fun c hc => h c (List.mem_cons_of_mem _ hc))
theorem rd_sorted {K : PySem.W.Frag} : RD1 (fun x => rSortX K [x]) gSorted := fun M H x dx dz D rx e Q q => by
  have go : ∀ ds, dx = .list ds ∨ dx = .tuple ds → gSortL ds = some dz → rSortX K [x] H Q := fun ds h hz => by
    unfold gSortL at hz
    split at hz
    · rename_i hb
      cases hz
      obtain ⟨a, vs, rfl, r, k⟩ := rx.seq h
      obtain ⟨z1, z2, z3⟩ := zip_reps k
      obtain ⟨s1, s2, s3⟩ := sortB_ok hb
      refine ⟨a, ds.zip vs, rfl, by rw [z2]; exact r K, fun b hb => Rep.dp (M := M) _ _ (z3 b hb), by rw [z1]; exact s1, by rw [z1]; exact s2, fun b hb => s3 _ (by rw [← z1]; exact List.mem_map_of_mem hb), fun p hp => ?_⟩
      have s2 : Same H (upd H p (.lst (((ds.zip vs).mergeSort (PySem.W.dataLe false Prod.fst)).map Prod.snd))) := same_upd hp
      refine q _ _ s2 ⟨p, _, rfl, D.free hp, upd_same, ?_⟩
      have e1 : ds.mergeSort (PySem.W.dataLe false id) = ((ds.zip vs).mergeSort (PySem.W.dataLe false Prod.fst)).map Prod.fst := by
        have z := List.map_mergeSort (r := PySem.W.dataLe false Prod.fst) (s := PySem.W.dataLe false id) (f := Prod.fst) (l := ds.zip vs) (fun a _ b _ => rfl)
        rw [z, z1]
      rw [e1]
      exact Reps.fr (Fr.of s2) _ _ (reps_pairs fun b hb => z3 b (List.mem_mergeSort.mp hb))
    · cases hz
  unfold gSorted at e
  split at e
  · exact go _ (.inl rfl) e
  · exact go _ (.inr rfl) e
  · cases e

/-! ### max, min of ints -/
section
variable {X : Cx}
omit [TabOf] in
def rMaxX (K : PySem.W.Frag) : List V → Hp → VK → Prop := fun vs H Q => ∃ (a : Addr) (n : Int) (ns : List Int), vs = [V.ref a] ∧ (SqL K H a ((n :: ns).map V.int) ∨ SqT K H a ((n :: ns).map V.int)) ∧ Q (.int (ns.foldl max n)) H
omit [TabOf] in
def rMinX (K : PySem.W.Frag) : List V → Hp → VK → Prop := fun vs H Q => ∃ (a : Addr) (n : Int) (ns : List Int), vs = [V.ref a] ∧ (SqL K H a ((n :: ns).map V.int) ∨ SqT K H a ((n :: ns).map V.int)) ∧ Q (.int (ns.foldl min n)) H
theorem reads_ints {h : Heap} : ∀ {ns : List Int} {its : List Value}, Vals (ns.map V.int) its → ∃ as, ReadsAll h its (ns.map PyData.int) as
  | [], _, r => by
    rw [List.map_nil] at r
    cases r
    exact ⟨_, .nil⟩
  | n :: ns, _, r => by
    rw [List.map_cons] at r
    cases r with
    | cons r1 r2 =>
      obtain ⟨t, rfl⟩ := r1
      obtain ⟨as, q⟩ := reads_ints (h := h) r2
      exact ⟨_, .cons (.int n t) q⟩
theorem alike_int (ns : List Int) : PySem.W.AlikeAll (ns.map PyData.int) := ⟨fun x hx y hy => by
    obtain ⟨i, _, rfl⟩ := List.mem_map.mp hx
    obtain ⟨j, _, rfl⟩ := List.mem_map.mp hy
    simp [PySem.W.alike], fun x hx => by
    obtain ⟨i, _, rfl⟩ := List.mem_map.mp hx
    exact fun z => nomatch z⟩
theorem reads_int_inv {h : Heap} {v : Value} {m : Int} {as : List Addr} (r : Reads h v (.int m) as) : ∃ t, v = .int m t := by
  cases r
  exact ⟨_, rfl⟩
theorem cr_maxX (hc : X.calm = true) (hu : X.A.units + 64 < cLine) : CallR X (.builtin "max") (rMaxX X.K) := by
  intro pins s σ H vs us Q I r h
  obtain ⟨a, n, ns, rfl, hs, q⟩ := h
  rw [Vals.ref1 r]
  have hd : X.A.units + 1 + PyData.depthAll ((n :: ns).map PyData.int) < cLine := by rw [PySem.W.depth_ints]; omega
  rcases hs with hs | hs
  · obtain ⟨its, rv, hl, _⟩ := I.list hs
    obtain ⟨as, ra⟩ := reads_ints (h := s.heap) rv
    refine PySem.W.max_list_data (x := .int n) (xs := ns.map .int) (I.ok.hd hc) hl.isList ra (alike_int (n :: ns)) hd fun i v h' tk bs _ hr hk => ?_
    rw [PySem.W.maxD_ints] at hr
    obtain ⟨t, rfl⟩ := reads_int_inv hr
    exact ⟨.int _, H, I.kept hk, ⟨_, rfl⟩, q⟩
  · obtain ⟨its, rv, hl, _⟩ := I.tuple hs
    obtain ⟨as, ra⟩ := reads_ints (h := s.heap) rv
    refine PySem.W.max_tuple_data (x := .int n) (xs := ns.map .int) (I.ok.hd hc) (show s.heap.IsTuple a its.toArray from hl) ra (alike_int (n :: ns)) hd fun i v h' tk bs _ hr hk => ?_
    rw [PySem.W.maxD_ints] at hr
    obtain ⟨t, rfl⟩ := reads_int_inv hr
    exact ⟨.int _, H, I.kept hk, ⟨_, rfl⟩, q⟩
theorem cr_minX (hc : X.calm = true) (hu : X.A.units + 64 < cLine) : CallR X (.builtin "min") (rMinX X.K) := by
  intro pins s σ H vs us Q I r h
  obtain ⟨a, n, ns, rfl, hs, q⟩ := h
  rw [Vals.ref1 r]
  have hd : X.A.units + 1 + PyData.depthAll ((n :: ns).map PyData.int) < cLine := by rw [PySem.W.depth_ints]; omega
  rcases hs with hs | hs
  · obtain ⟨its, rv, hl, _⟩ := I.list hs
    obtain ⟨as, ra⟩ := reads_ints (h := s.heap) rv
    refine PySem.W.min_list_data (x := .int n) (xs := ns.map .int) (I.ok.hd hc) hl.isList ra (alike_int (n :: ns)) hd fun i v h' tk bs _ hr hk => ?_
    rw [PySem.W.minD_ints] at hr
    obtain ⟨t, rfl⟩ := reads_int_inv hr
    exact ⟨.int _, H, I.kept hk, ⟨_, rfl⟩, q⟩
  · obtain ⟨its, rv, hl, _⟩ := I.tuple hs
    obtain ⟨as, ra⟩ := reads_ints (h := s.heap) rv
    refine PySem.W.min_tuple_data (x := .int n) (xs := ns.map .int) (I.ok.hd hc) (show s.heap.IsTuple a its.toArray from hl) ra (alike_int (n :: ns)) hd fun i v h' tk bs _ hr hk => ?_
    rw [PySem.W.minD_ints] at hr
    obtain ⟨t, rfl⟩ := reads_int_inv hr
    exact ⟨.int _, H, I.kept hk, ⟨_, rfl⟩, q⟩
end
omit [TabOf] in
def maxOf : List PyData → Option PyData := fun ds => (intsOf ds).bind fun ns => match ns with | [] => none | n :: r => some (.int (r.foldl max n))
omit [TabOf] in
def minOf : List PyData → Option PyData := fun ds => (intsOf ds).bind fun ns => match ns with | [] => none | n :: r => some (.int (r.foldl min n))
omit [TabOf] in
def gMax : PyData → Option PyData
  | .list ds => maxOf ds
  | .tuple ds => maxOf ds
  | _ => none
omit [TabOf] in
def gMin : PyData → Option PyData
  | .list ds => minOf ds
  | .tuple ds => minOf ds
  | _ => none
theorem rd_max {K : PySem.W.Frag} : RD1 (fun x => rMaxX K [x]) gMax := fun M H x dx dz D rx e Q q => by
  have go : ∀ ds, dx = .list ds ∨ dx = .tuple ds → maxOf ds = some dz → rMaxX K [x] H Q := fun ds h hz => by
    unfold maxOf at hz
    cases e1 : intsOf ds with
    | none => rw [e1] at hz; cases hz
    | some ns =>
      rw [e1] at hz
      cases ns with
      | nil => cases hz
      | cons n r =>
        cases hz
        obtain ⟨a, vs, rfl, rr, k⟩ := rx.seq h
        rw [intsOf_eq e1] at k
        rw [k.ints] at rr
        exact ⟨a, n, r, rfl, rr K, q _ H (Same.refl H) rfl⟩
  unfold gMax at e
  split at e
  · exact go _ (.inl rfl) e
  · exact go _ (.inr rfl) e
  · cases e
theorem rd_min {K : PySem.W.Frag} : RD1 (fun x => rMinX K [x]) gMin := fun M H x dx dz D rx e Q q => by
  have go : ∀ ds, dx = .list ds ∨ dx = .tuple ds → minOf ds = some dz → rMinX K [x] H Q := fun ds h hz => by
    unfold minOf at hz
    cases e1 : intsOf ds with
    | none => rw [e1] at hz; cases hz
    | some ns =>
      rw [e1] at hz
      cases ns with
      | nil => cases hz
      | cons n r =>
        cases hz
        obtain ⟨a, vs, rfl, rr, k⟩ := rx.seq h
        rw [intsOf_eq e1] at k
        rw [k.ints] at rr
        exact ⟨a, n, r, rfl, rr K, q _ H (Same.refl H) rfl⟩
  unfold gMin at e
  split at e
  · exact go _ (.inl rfl) e
  · exact go _ (.inr rfl) e
  · cases e

/-! ### isinstance -/
omit [TabOf] in
def isT (T : String) : PyData → Bool
  | .none => T == "NoneType"
  | .bool _ => T == "bool" || T == "int"
  | .int _ => T == "int"
  | .str _ => T == "str"
  | .list _ => T == "list"
  | .tuple _ => T == "tuple"
  | .dict _ => T == "dict"
omit [TabOf] in
def gIsi (T : String) : PyData → Option PyData
  | .dict _ => none
  | d => some (.bool (isT T d))
/-- T is one of the built-in classes that are asked for -/
structure IsiT (T : String) : Prop where
  n : kitB "NoneType" T = some (isT T .none)
  b : ∀ x, kitB "bool" T = some (isT T (.bool x))
  i : ∀ x, kitB "int" T = some (isT T (.int x))
  s : ∀ x, kitB "str" T = some (isT T (.str x))
  l : ∀ x, kitB "list" T = some (isT T (.list x))
  t : ∀ x, kitB "tuple" T = some (isT T (.tuple x))
theorem isi_int : IsiT "int" := ⟨by decide +kernel, fun _ => (by decide +kernel : kitB "bool" "int" = some true), fun _ => (by decide +kernel : kitB "int" "int" = some true), fun _ => (by decide +kernel : kitB "str" "int" = some false), fun _ => (by decide +kernel : kitB "list" "int" = some false), fun _ => (by decide +kernel : kitB "tuple" "int" = some false)⟩
theorem isi_bool : IsiT "bool" := ⟨by decide +kernel, fun _ => (by decide +kernel : kitB "bool" "bool" = some true), fun _ => (by decide +kernel : kitB "int" "bool" = some false), fun _ => (by decide +kernel : kitB "str" "bool" = some false), fun _ => (by decide +kernel : kitB "list" "bool" = some false), fun _ => (by decide +kernel : kitB "tuple" "bool" = some false)⟩
theorem isi_tuple : IsiT "tuple" := ⟨by decide +kernel, fun _ => (by decide +kernel : kitB "bool" "tuple" = some false), fun _ => (by decide +kernel : kitB "int" "tuple" = some false), fun _ => (by decide +kernel : kitB "str" "tuple" = some false), fun _ => (by decide +kernel : kitB "list" "tuple" = some false), fun _ => (by decide +kernel : kitB "tuple" "tuple" = some true)⟩
theorem isi_list : IsiT "list" := ⟨by decide +kernel, fun _ => (by decide +kernel : kitB "bool" "list" = some false), fun _ => (by decide +kernel : kitB "int" "list" = some false), fun _ => (by decide +kernel : kitB "str" "list" = some false), fun _ => (by decide +kernel : kitB "list" "list" = some true), fun _ => (by decide +kernel : kitB "tuple" "list" = some false)⟩
theorem isi_str : IsiT "str" := ⟨by decide +kernel, fun _ => (by decide +kernel : kitB "bool" "str" = some false), fun _ => (by decide +kernel : kitB "int" "str" = some false), fun _ => (by decide +kernel : kitB "str" "str" = some true), fun _ => (by decide +kernel : kitB "list" "str" = some false), fun _ => (by decide +kernel : kitB "tuple" "str" = some false)⟩
theorem rd_isi {K : PySem.W.Frag} {T : String} (Z : IsiT T) : RD1 (fun x => rIsi K [x, .ty T]) (gIsi T) := fun M H x dx dz D rx e Q q => by
  have fin : ∀ (t : Value) (n : String) (b : Bool), t = .type n → TyX K H x t → kitB n T = some b → dz = .bool b → rIsi K [x, .ty T] H Q := fun t n b et ty h hz => by
    subst et hz
    exact ⟨x, .ty T, _, _, b, rfl, .ty T, ty, kit_ty h, q _ H (Same.refl H) rfl⟩
  cases dx with
  | none =>
    cases e
    cases (show x = _ from rx)
    exact fin _ _ _ rfl (.base .non) Z.n rfl
  | bool b =>
    cases e
    cases (show x = _ from rx)
    exact fin _ _ _ rfl (.base (.bl _)) (Z.b b) rfl
  | int b =>
    cases e
    cases (show x = _ from rx)
    exact fin _ _ _ rfl (.base (.int _)) (Z.i b) rfl
  | str b =>
    cases e
    cases (show x = _ from rx)
    exact fin _ _ _ rfl (.base (.str _)) (Z.s b) rfl
  | list ds =>
    cases e
    obtain ⟨a, vs, rfl, r, k⟩ := rx
    exact fin _ _ _ rfl (.base (.lst r)) (Z.l ds) rfl
  | tuple ds =>
    cases e
    obtain ⟨a, vs, rfl, n, r, k⟩ := rx
    exact fin _ _ _ rfl (.base (.tup r)) (Z.t ds) rfl
  | dict _ => cases e
theorem ev_isi {K : PySem.W.Frag} {T : String} {ta : TE} {Fa : FE} (Z : IsiT T) (ha : EvT ta Fa) : Ev (tCB (rIsi K) (tCons ta (tCons (tC (.ty T)) tNil))) (fUn (gIsi T) Fa) := fun w en σ H d en' o e Q q => by
  unfold fUn at e
  cases e1 : Fa en with
  | none => rw [e1] at e; cases e
  | some p =>
    rw [e1] at e
    simp only [Option.bind_some] at e
    cases e3 : gIsi T p.1 with
    | none => rw [e3] at e; cases e
    | some z =>
      rw [e3] at e
      cases e
      refine ha w en σ H p.1 p.2 o e1 _ fun x H1 f1 o1 r1 => ?_
      exact rd_isi Z w.M H1 x _ _ o1.dom r1 e3 _ fun v H3 s3 r3 => q v H3 (f1.trans (Fr.of s3)) (o1.same s3) r3

/-! ### slices -/
omit [TabOf] in
def cutD (xs : List PyData) (lo hi : Option Int) : List PyData := (xs.drop (HT.sIx xs.length 0 lo)).take (HT.sIx xs.length xs.length hi - HT.sIx xs.length 0 lo)
theorem cut_reps {M : Addr → Prop} {H : Hp} {ds : List PyData} {vs : List V} (h : Reps M H ds vs) (lo hi : Option Int) : Reps M H (cutD ds lo hi) (cutV vs lo hi) := by
  unfold cutD cutV
  rw [h.length]
  exact (h.drop _).take _
omit [TabOf] in
def rSlX (K : PySem.W.Frag) : V → Option Int → Option Int → Hp → VK → Prop := fun x lo hi H Q => rSlL K x lo hi H Q ∨ rSlA K x lo hi H Q
theorem sl_X {X : Cx} : SlR X (rSlX X.K) := SlR.or sl_list sl_tupA
omit [TabOf] in
def gSl : PyData → Option Int → Option Int → Option PyData
  | .list ds, lo, hi => some (.list (cutD ds lo hi))
  | .tuple ds, lo, hi => some (.tuple (cutD ds lo hi))
  | _, _, _ => none
omit [TabOf] in
abbrev FO := En → Option (Option Int × En)
omit [TabOf] in
def fNoPart : FO := fun en => some (none, en)
omit [TabOf] in
def fPart (F : FE) : FO := fun en => (F en).bind fun p => match p.1 with | .int i => some (some i, p.2) | _ => none
def EvO (to : TO) (F : FO) : Prop := ∀ (w : Wd) (en : En) (σ : L2.St) (H : Hp) (d : Option Int) (en' : En), Ok w en σ H → F en = some (d, en') →
  ∀ Q : Option Int → Hp → Prop, (∀ H', Fr w.M H H' → Ok w en' σ H' → Q d H') → to σ H Q
theorem eo_none : EvO tNoPart fNoPart := fun w en σ H d en' o e Q q => by
  cases e
  exact q H Fr.refl o
theorem eo_some {te : TE} {F : FE} (h : Ev te F) : EvO (tPart te) (fPart F) := fun w en σ H d en' o e Q q => by
  unfold fPart at e
  cases e1 : F en with
  | none => rw [e1] at e; cases e
  | some p =>
    rw [e1] at e
    obtain ⟨z, e2⟩ := p
    simp only [Option.bind_some] at e
    cases z with
    | int i =>
      cases e
      exact h w en σ H _ _ o e1 _ fun v H1 f1 o1 r1 => ⟨i, r1, q H1 f1 o1⟩
    | _ => cases e
omit [TabOf] in
def fSl (F : FE) (lo hi : FO) : FE := fun en => (F en).bind fun p => (lo p.2).bind fun q => (hi q.2).bind fun r => (gSl p.1 q.1 r.1).map fun z => (z, r.2)
theorem cutD_whole {ds : List PyData} {lo hi : Option Int} (h : HT.sIx ds.length 0 lo = 0 ∧ HT.sIx ds.length ds.length hi = ds.length) : cutD ds lo hi = ds := by
  unfold cutD
  rw [h.1, h.2]
  simp
theorem ev_sl {K : PySem.W.Frag} {te : TE} {F : FE} {tl th : TO} {lo hi : FO} (h : Ev te F) (h1 : EvO tl lo) (h2 : EvO th hi) : Ev (tSl (rSlX K) te tl th) (fSl F lo hi) := fun w en σ H d en' o e Q q => by
  unfold fSl at e
  cases e1 : F en with
  | none => rw [e1] at e; cases e
  | some p =>
    rw [e1] at e
    simp only [Option.bind_some] at e
    cases e2 : lo p.2 with
    | none => rw [e2] at e; cases e
    | some p2 =>
      rw [e2] at e
      simp only [Option.bind_some] at e
      cases e3 : hi p2.2 with
      | none => rw [e3] at e; cases e
      | some p3 =>
        rw [e3] at e
        simp only [Option.bind_some] at e
        cases e4 : gSl p.1 p2.1 p3.1 with
        | none => rw [e4] at e; cases e
        | some z =>
          rw [e4] at e
          cases e
          refine h w en σ H p.1 p.2 o e1 _ fun x H1 f1 o1 r1 => ?_
          refine h1 w p.2 σ H1 p2.1 p2.2 o1 e2 _ fun H2 f2 o2 => ?_
          refine h2 w p2.2 σ H2 p3.1 p3.2 o2 e3 _ fun H3 f3 o3 => ?_
          have r3 := Rep.fr (f2.trans f3) _ _ r1
          obtain ⟨pd, pe⟩ := p
          cases pd with
          | list ds =>
            cases e4
            obtain ⟨a, vs, rfl, n, r, k⟩ := r3
            refine .inl ⟨a, vs, rfl, .inl (.inl r), fun b hb => ?_⟩
            have s2 : Same H3 (upd H3 b (.lst (cutV vs p2.1 p3.1))) := same_upd hb
            exact q _ _ ((f1.trans (f2.trans f3)).trans (Fr.of s2)) (o3.same s2) ⟨b, _, rfl, o3.dom.free hb, upd_same, Reps.fr (Fr.of s2) _ _ (cut_reps k _ _)⟩
          | tuple ds =>
            cases e4
            obtain ⟨a, vs, rfl, n, r, k⟩ := r3
            refine .inr ⟨a, vs, rfl, .inl (.inl r), fun hw => ?_, fun _ b hb => ?_⟩
            · rw [k.length] at hw
              refine q _ H3 (f1.trans (f2.trans f3)) o3 ⟨a, vs, rfl, n, r, ?_⟩
              rw [cutD_whole hw]
              exact k
            · have s2 : Same H3 (upd H3 b (.tup (cutV vs p2.1 p3.1))) := same_upd hb
              exact q _ _ ((f1.trans (f2.trans f3)).trans (Fr.of s2)) (o3.same s2) ⟨b, _, rfl, o3.dom.free hb, upd_same, Reps.fr (Fr.of s2) _ _ (cut_reps k _ _)⟩
          | _ => cases e4
/-! ### xs[::-1] of a list -/
omit [TabOf] in
def gRev : PyData → Option PyData
  | .list ds => some (.list ds.reverse)
  | _ => none
theorem ev_rev {K : PySem.W.Frag} {te : TE} {F : FE} (h : EvT te F) : Ev (tRevL K te) (fUn gRev F) := fun w en σ H d en' o e Q q => by
  unfold fUn at e
  cases e1 : F en with
  | none => rw [e1] at e; cases e
  | some p =>
    rw [e1] at e
    obtain ⟨z, e2⟩ := p
    simp only [Option.bind_some] at e
    cases z with
    | list ds =>
      cases e
      refine h w en σ H _ _ o e1 _ fun x H1 f1 o1 r1 => ?_
      obtain ⟨a, vs, rfl, r, k⟩ := r1
      refine ⟨a, vs, rfl, .inl (.inl r), fun b hb => ?_⟩
      have s2 : Same H1 (upd H1 b (.lst vs.reverse)) := same_upd hb
      exact q _ _ (f1.trans (Fr.of s2)) (o1.same s2) ⟨b, _, rfl, o1.dom.free hb, upd_same, Reps.fr (Fr.of s2) _ _ k.reverse⟩
    | _ => cases e
/-! ### list(range(n)) -/
omit [TabOf] in
def gLRg : PyData → Option PyData
  | .int n => if -100000 ≤ n ∧ n ≤ 100000 then some (.list ((List.range n.toNat).map fun (i : Nat) => .int (i : Int))) else none
  | _ => none
theorem reps_range {M : Addr → Prop} {H : Hp} (n : Int) : Reps M H ((List.range n.toNat).map fun (i : Nat) => PyData.int (i : Int)) (rgV 0 n) := by
  have e : ((List.range n.toNat).map fun (i : Nat) => PyData.int (i : Int)) = ((List.range n.toNat).map fun (i : Nat) => (i : Int)).map PyData.int := by rw [List.map_map]; rfl
  have e2 : rgV 0 n = ((List.range n.toNat).map fun (i : Nat) => (i : Int)).map V.int := by
    unfold rgV
    rw [List.map_map, Int.sub_zero]
    refine List.map_congr_left fun i _ => ?_
    show V.int (0 + (i : Int)) = V.int (i : Int)
    rw [Int.zero_add]
  rw [e, e2]
  exact Reps.of_ints _
theorem ev_lrg {te : TE} {F : FE} (h : Ev te F) : Ev (tLstRg (tRg1 te)) (fUn gLRg F) := fun w en σ H d en' o e Q q => by
  unfold fUn at e
  cases e1 : F en with
  | none => rw [e1] at e; cases e
  | some p =>
    rw [e1] at e
    obtain ⟨z, e2⟩ := p
    simp only [Option.bind_some] at e
    cases z with
    | int n =>
      unfold gLRg at e
      by_cases hn : -100000 ≤ n ∧ n ≤ 100000
      · simp only [if_pos hn] at e
        cases e
        refine h w en σ H _ _ o e1 _ fun x H1 f1 o1 r1 => ?_
        refine ⟨n, r1, ?_, fun b hb => ?_⟩
        · exact ⟨by omega, by omega, by omega, by omega, by omega⟩
        · have s2 : Same H1 (upd H1 b (.lst (rgV 0 n))) := same_upd hb
          exact q _ _ (f1.trans (Fr.of s2)) (o1.same s2) ⟨b, _, rfl, o1.dom.free hb, upd_same, reps_range n⟩
      · simp only [if_neg hn] at e
        cases e
    | _ => cases e
end N

set_option Elab.async false
set_option linter.all false
set_option maxRecDepth 100000
set_option maxHeartbeats 4000000
/-! N5: how a state goes on: a slot set, a list changed, a list being made; comprehensions. -/
namespace N
open PySem PySem.Spec PyProof.Rows L2
variable [TabOf]
section
variable {w : Wd} {en : En} {σ : L2.St} {H H' : Hp} {i : Nat}
theorem get_lt {α : Type} {l : List α} {i : Nat} {x : α} (h : l[i]? = some x) : i < l.length := (List.getElem?_eq_some_iff.mp h).1
/-- a slot that holds no list that changes is set -/
theorem Ok.set (o : Ok w en σ H) (ha : w.as[i]? = some []) {d : PyData} {v : V} (r : Rep w.M H d v) : Ok w (en.set i (.im d)) (σ.set i (some v)) H where
  la := by rw [List.length_set]; exact o.la
  ls := by rw [List.length_set, List.length_set]; exact o.ls
  slot := fun j s e => by
    have hi : i < en.length := by rw [← o.la]; exact get_lt ha
    by_cases h : i = j
    · subst h
      rw [List.getElem?_set_self hi] at e
      cases e
      exact ⟨[], some v, ha, by rw [List.getElem?_set_self (by rw [o.ls]; exact hi)], rfl, v, rfl, r⟩
    · rw [List.getElem?_set_ne h] at e
      obtain ⟨a, x, e1, e2, e3⟩ := o.slot j s e
      exact ⟨a, x, e1, by rw [List.getElem?_set_ne h]; exact e2, e3⟩
  dj := o.dj
  nd := o.nd
  fresh := o.fresh
  dom := o.dom
  fr := o.fr
  tabs := o.tabs
  held := o.held
  hd := o.hd
  hf := o.hf
  p0 := o.p0
  keep := o.keep
/-- a slot forgotten -/
theorem Ok.unset (o : Ok w en σ H) (ha : w.as[i]? = some []) (x : Option V) : Ok w (en.set i .no) (σ.set i x) H where
  la := by rw [List.length_set]; exact o.la
  ls := by rw [List.length_set, List.length_set]; exact o.ls
  slot := fun j s e => by
    have hi : i < en.length := by rw [← o.la]; exact get_lt ha
    by_cases h : i = j
    · subst h
      rw [List.getElem?_set_self hi] at e
      cases e
      exact ⟨[], x, ha, by rw [List.getElem?_set_self (by rw [o.ls]; exact hi)], rfl⟩
    · rw [List.getElem?_set_ne h] at e
      obtain ⟨a, x, e1, e2, e3⟩ := o.slot j s e
      exact ⟨a, x, e1, by rw [List.getElem?_set_ne h]; exact e2, e3⟩
  dj := o.dj
  nd := o.nd
  fresh := o.fresh
  dom := o.dom
  fr := o.fr
  tabs := o.tabs
  held := o.held
  hd := o.hd
  hf := o.hf
  p0 := o.p0
  keep := o.keep
omit [TabOf] in
def isPlain : Option Sl → Bool
  | some .no => true
  | some (.im _) => true
  | _ => false
theorem Ok.plain (o : Ok w en σ H) (h : isPlain en[i]? = true) : w.as[i]? = some [] := by
  cases e : en[i]? with
  | none => rw [e] at h; cases h
  | some s =>
    rw [e] at h
    obtain ⟨a, x, e1, e2, e3⟩ := o.slot i s e
    cases s with
    | no =>
      have e3 : a = [] := e3
      rw [e1, e3]
    | im d =>
      have e3 : a = [] := e3.1
      rw [e1, e3]
    | mu _ => cases h
    | m2 _ => cases h
omit [TabOf] in
/-- slots of a comprehension's own names -/
def wipeE (en : En) : List Nat → En
  | [] => en
  | v :: vs => (wipeE en vs).set v .no
omit [TabOf] in
def ownOk (en : En) (vs : List Nat) : Bool := vs.all fun i => isPlain en[i]?
theorem Ok.wipe (o : Ok w en σ H) : ∀ (vs : List Nat), (∀ i ∈ vs, w.as[i]? = some []) → Ok w (wipeE en vs) (L2.wipe σ vs) H
  | [], _ => o
  | v :: vs, h => (Ok.wipe o vs fun i hi => h i (List.mem_cons_of_mem _ hi)).unset (h v List.mem_cons_self) none
theorem wipeE_length (en : En) : ∀ vs : List Nat, (wipeE en vs).length = en.length
  | [] => rfl
  | v :: vs => by unfold wipeE; rw [List.length_set, wipeE_length en vs]
theorem wipeE_out {en : En} {i : Nat} : ∀ {vs : List Nat}, i ∉ vs → (wipeE en vs)[i]? = en[i]?
  | [], _ => rfl
  | v :: vs, h => by
    have h1 : v ≠ i := fun e => h (by rw [e]; exact List.mem_cons_self)
    have h2 : i ∉ vs := fun m => h (List.mem_cons_of_mem _ m)
    unfold wipeE
    rw [List.getElem?_set_ne h1]
    exact wipeE_out h2
omit [TabOf] in
/-- the own names' slots as they stood ahead -/
def restore (e e0 : En) : List Nat → En
  | [] => e
  | v :: vs => match e0[v]? with
    | some s => (restore e e0 vs).set v s
    | none => restore e e0 vs
theorem restore_length (e e0 : En) : ∀ vs : List Nat, (restore e e0 vs).length = e.length
  | [] => rfl
  | v :: vs => by
    unfold restore
    split
    · rw [List.length_set, restore_length e e0 vs]
    · exact restore_length e e0 vs
theorem restore_in {e e0 : En} (hl : e.length = e0.length) {i : Nat} : ∀ {vs : List Nat}, i ∈ vs → (restore e e0 vs)[i]? = e0[i]?
  | v :: vs, h => by
    unfold restore
    by_cases hv : v = i
    · subst hv
      split
      · rename_i s hs
        rw [List.getElem?_set_self (by rw [restore_length, hl]; exact get_lt hs), hs]
      · rename_i hs
        rw [hs, List.getElem?_eq_none (by rw [restore_length, hl]; exact List.getElem?_eq_none_iff.mp hs)]
    · have h2 : i ∈ vs := by
        rcases List.mem_cons.mp h with e | e
        · exact absurd e.symm hv
        · exact e
      split
      · rw [List.getElem?_set_ne hv]
        exact restore_in hl h2
      · exact restore_in hl h2
theorem restore_out {e e0 : En} {i : Nat} : ∀ {vs : List Nat}, i ∉ vs → (restore e e0 vs)[i]? = e[i]?
  | [], _ => rfl
  | v :: vs, h => by
    have h1 : v ≠ i := fun e => h (by rw [e]; exact List.mem_cons_self)
    have h2 : i ∉ vs := fun m => h (List.mem_cons_of_mem _ m)
    unfold restore
    split
    · rw [List.getElem?_set_ne h1]
      exact restore_out h2
    · exact restore_out h2
theorem Wd.M_of {w : Wd} {a : Addr} {i : Nat} {l : List Addr} (h : w.as[i]? = some l) (m : a ∈ l) : w.M a := .inr (.inl ⟨i, l, h, m⟩)
/-- a list that this def changes gets other items -/
theorem Ok.upd (o : Ok w en σ H) {a : Addr} {l : List Addr} {s : Sl} {x : Option V} {vs vs' : List V} (hi : w.as[i]? = some l) (hm : a ∈ l) (hH : H a = some (.lst vs)) (hx : σ[i]? = some x) (hs : SlOk w.M (L2.upd H a (.lst vs')) l s x) :
    Ok w (en.set i s) σ (L2.upd H a (.lst vs')) := by
  have ma : w.M a := Wd.M_of hi hm
  have f : Fr w.M H (L2.upd H a (.lst vs')) := fun b u e n t => by
    rw [upd_ne (fun z => n (by rw [z]; exact ma))]
    exact e
  have keepO : ∀ b u, H b = some u → b ≠ a → (L2.upd H a (.lst vs')) b = some u := fun b u e n => by
    rw [upd_ne n]
    exact e
  have hil : i < en.length := by rw [← o.la]; exact get_lt hi
  refine ⟨by rw [List.length_set]; exact o.la, by rw [List.length_set]; exact o.ls, fun j s' e => ?_, o.dj, o.nd, o.fresh, fun b hb => ?_, fun b u e n t => ?_, fun p hp => ?_, fun p hp => ?_, o.hd, o.hf, fun b hb => ?_, fun p hp => Rep.fr f _ _ (o.keep p hp)⟩
  · by_cases h : i = j
    · subst h
      rw [List.getElem?_set_self hil] at e
      cases e
      exact ⟨l, x, hi, hx, hs⟩
    · rw [List.getElem?_set_ne h] at e
      obtain ⟨l', y, e1, e2, e3⟩ := o.slot j s' e
      refine ⟨l', y, e1, e2, ?_⟩
      have na : ∀ b ∈ l', b ≠ a := fun b hb z => h (o.dj i j l l' a hi e1 hm (by rw [← z]; exact hb))
      cases s' with
      | no => exact e3
      | im d =>
        obtain ⟨q1, v, q2, q3⟩ := e3
        exact ⟨q1, v, q2, Rep.fr f _ _ q3⟩
      | mu ds =>
        obtain ⟨b, us, q1, q2, q3, q4⟩ := e3
        exact ⟨b, us, q1, q2, keepO _ _ q3 (na b (by rw [q1]; exact List.mem_cons_self)), Reps.fr f _ _ q4⟩
      | m2 dss =>
        obtain ⟨b, rs, q1, q2, q3, q4⟩ := e3
        refine ⟨b, rs, q1, q2, keepO _ _ q3 (na b (by rw [q1]; exact List.mem_cons_self)), ?_⟩
        have rows : ∀ (dss : List (List PyData)) (rs : List Addr), (∀ r ∈ rs, r ≠ a) → Rows w.M H dss rs → Rows w.M (L2.upd H a (.lst vs')) dss rs := by
          intro dss
          induction dss with
          | nil => exact fun rs _ q => q
          | cons ds dss ih =>
            intro rs hn q
            obtain ⟨r, rr, us, rfl, z1, z2, z3⟩ := q
            exact ⟨r, rr, us, rfl, keepO _ _ z1 (hn r List.mem_cons_self), Reps.fr f _ _ z2, ih rr (fun c hc => hn c (List.mem_cons_of_mem _ hc)) z3⟩
        exact rows dss rs (fun r hr => na r (by rw [q1]; exact List.mem_cons_of_mem _ hr)) q4
  · by_cases h : b = a
    · exact ⟨_, by rw [h]; exact upd_same⟩
    · obtain ⟨u, e⟩ := o.dom b hb
      exact ⟨u, keepO _ _ e h⟩
  · have nb : b ≠ a := fun z => by
      rcases o.fresh a ⟨i, l, hi, hm⟩ with q | q
      · exact n (by rw [z]; exact q)
      · obtain ⟨ps, hps⟩ := q u (by rw [← z]; exact e)
        exact t ps hps
    exact keepO _ _ (o.fr b u e n t) nb
  · obtain ⟨ps, h1, h2, h3⟩ := o.tabs p hp
    refine ⟨ps, keepO _ _ h1 (fun z => ?_), h2, fun pos cv hc => ?_⟩
    · rw [z, hH] at h1
      cases h1
    · obtain ⟨c, e1, e2⟩ := h3 pos cv hc
      refine ⟨c, e1, keepO _ _ e2 (fun z => ?_)⟩
      rw [z, hH] at e2
      have e2 := Option.some.inj e2
      unfold LamX.CodeO at e2
      cases e2
  · refine keepO _ _ (o.held p hp) (fun z => ?_)
    exact o.hd p hp ⟨i, l, hi, by rw [z]; exact hm⟩
  · by_cases h : b = a
    · exact ⟨_, by rw [h]; exact upd_same⟩
    · obtain ⟨u, e⟩ := o.p0 b hb
      exact ⟨u, keepO _ _ e h⟩
theorem Ok.updMu (o : Ok w en σ H) {a : Addr} {ds' : List PyData} {vs vs' : List V} (hi : w.as[i]? = some [a]) (hs : σ[i]? = some (some (.ref a))) (hH : H a = some (.lst vs)) (r : Reps w.M H ds' vs') :
    Ok w (en.set i (.mu ds')) σ (L2.upd H a (.lst vs')) := by
  refine o.upd hi List.mem_cons_self hH hs ⟨a, vs', rfl, rfl, upd_same, ?_⟩
  exact Reps.fr (M := w.M) (fun b u e n t => by
    rw [upd_ne (fun z => n (by rw [z]; exact Wd.M_of hi List.mem_cons_self))]
    exact e) _ _ r
theorem fr_upd {M : Addr → Prop} {a : Addr} {u : HO} (h : M a) : Fr M H (L2.upd H a u) := fun b x e n t => by
  rw [upd_ne (fun z => n (by rw [z]; exact h))]
  exact e

/-! ### a list that is being made -/
def Wd.hold (w : Wd) (p : Addr) (vs : List V) : Wd := { w with held := (p, vs) :: w.held }
theorem Wd.hold_M {w : Wd} {p : Addr} {vs : List V} {a : Addr} : (w.hold p vs).M a ↔ w.M a ∨ a = p := by
  constructor
  · rintro (h | h | ⟨q, hq, e⟩)
    · exact .inl (.inl h)
    · exact .inl (.inr (.inl h))
    · rcases List.mem_cons.mp hq with rfl | hq
      · exact .inr e.symm
      · exact .inl (.inr (.inr ⟨q, hq, e⟩))
  · rintro ((h | h | ⟨q, hq, e⟩) | rfl)
    · exact .inl h
    · exact .inr (.inl h)
    · exact .inr (.inr ⟨q, List.mem_cons_of_mem _ hq, e⟩)
    · exact .inr (.inr ⟨(a, vs), List.mem_cons_self, rfl⟩)
theorem rows_more {M M' : Addr → Prop} (h : ∀ a, M' a → M a ∨ H a = Option.none) : ∀ {dss : List (List PyData)} {rs : List Addr}, Rows M H dss rs → Rows M' H dss rs
  | [], _, q => q
  | ds :: dss, _, q => by
    obtain ⟨r, rr, us, rfl, z1, z2, z3⟩ := q
    exact ⟨r, rr, us, rfl, z1, Reps.more h _ _ z2, rows_more h z3⟩
theorem SlOk.more {M M' : Addr → Prop} (h : ∀ a, M' a → M a ∨ H a = Option.none) {as : List Addr} {s : Sl} {x : Option V} (q : SlOk M H as s x) : SlOk M' H as s x := by
  cases s with
  | no => exact q
  | im d =>
    obtain ⟨q1, v, q2, q3⟩ := q
    exact ⟨q1, v, q2, Rep.more h _ _ q3⟩
  | mu ds =>
    obtain ⟨b, us, q1, q2, q3, q4⟩ := q
    exact ⟨b, us, q1, q2, q3, Reps.more h _ _ q4⟩
  | m2 dss =>
    obtain ⟨b, rs, q1, q2, q3, q4⟩ := q
    exact ⟨b, rs, q1, q2, q3, rows_more h q4⟩
theorem Ok.new_of (o : Ok w en σ H) {p : Addr} (hp : H p = Option.none) : w.New p := fun u e => by
  have hP : p ∉ w.P0 := fun z => by
    obtain ⟨vs, q⟩ := o.p0 p z
    rw [hp] at q
    cases q
  cases u with
  | tbl ps => exact ⟨ps, rfl⟩
  | _ =>
    have z := o.fr p _ e hP (fun ps z => by cases z)
    rw [hp] at z
    cases z
/-- a new list is laid -/
theorem Ok.lay (o : Ok w en σ H) {p : Addr} (hp : H p = Option.none) (vs : List V) : Ok (w.hold p vs) en σ (L2.upd H p (.lst vs)) := by
  have s : Same H (L2.upd H p (.lst vs)) := same_upd hp
  have o' := o.same s
  have mm : ∀ a, (w.hold p vs).M a → w.M a ∨ H a = Option.none := fun a h => by
    rcases Wd.hold_M.mp h with h | h
    · exact .inl h
    · exact .inr (by rw [h]; exact hp)
  refine ⟨o'.la, o'.ls, fun i sl e => ?_, o'.dj, o'.nd, o'.fresh, fun a h => ?_, o'.fr, o'.tabs, fun q hq => ?_, fun q hq => ?_, fun q hq => ?_, o'.p0, fun q hq => ?_⟩
  · obtain ⟨a, x, e1, e2, e3⟩ := o.slot i sl e
    exact ⟨a, x, e1, e2, (SlOk.more mm e3).same s⟩
  · rcases Wd.hold_M.mp h with h | h
    · exact o'.dom a h
    · exact ⟨_, by rw [h]; exact upd_same⟩
  · rcases List.mem_cons.mp hq with rfl | hq
    · exact upd_same
    · exact o'.held q hq
  · rcases List.mem_cons.mp hq with rfl | hq
    · rintro ⟨i, l, e1, e2⟩
      obtain ⟨u, e⟩ := o.dom p (Wd.M_of e1 e2)
      rw [hp] at e
      cases e
    · exact o'.hd q hq
  · rcases List.mem_cons.mp hq with rfl | hq
    · exact o.new_of hp
    · exact o'.hf q hq
  · exact Rep.fr (Fr.of s) _ _ (Rep.more mm _ _ (o.keep q hq))
/-- one more item -/
theorem Ok.grow {p : Addr} {vs vs' : List V} (o : Ok (w.hold p vs) en σ H) (nh : ∀ q ∈ w.held, q.1 ≠ p) : Ok (w.hold p vs') en σ (L2.upd H p (.lst vs')) := by
  have hp : H p = some (.lst vs) := o.held (p, vs) List.mem_cons_self
  have em : (w.hold p vs').M = (w.hold p vs).M := by
    funext a
    exact propext (Wd.hold_M.trans Wd.hold_M.symm)
  have mp : (w.hold p vs).M p := Wd.hold_M.mpr (.inr rfl)
  have f : Fr (w.hold p vs).M H (L2.upd H p (.lst vs')) := fr_upd mp
  have nl : ∀ (i : Nat) (l : List Addr), w.as[i]? = some l → ∀ a ∈ l, a ≠ p := fun i l e a ha z => o.hd (p, vs) List.mem_cons_self ⟨i, l, e, by rw [← z]; exact ha⟩
  have keepO : ∀ b u, H b = some u → b ≠ p → (L2.upd H p (.lst vs')) b = some u := fun b u e n => by
    rw [upd_ne n]
    exact e
  refine ⟨o.la, o.ls, fun i sl e => ?_, o.dj, o.nd, o.fresh, fun a h => ?_, fun b u e n t => ?_, fun q hq => ?_, fun q hq => ?_, fun q hq => ?_, fun q hq => ?_, fun a h => ?_, fun q hq => ?_⟩
  · obtain ⟨l, x, e1, e2, e3⟩ := o.slot i sl e
    refine ⟨l, x, e1, e2, ?_⟩
    rw [em]
    have na := nl i l e1
    cases sl with
    | no => exact e3
    | im d =>
      obtain ⟨q1, v, q2, q3⟩ := e3
      exact ⟨q1, v, q2, Rep.fr f _ _ q3⟩
    | mu ds =>
      obtain ⟨b, us, q1, q2, q3, q4⟩ := e3
      exact ⟨b, us, q1, q2, keepO _ _ q3 (na b (by rw [q1]; exact List.mem_cons_self)), Reps.fr f _ _ q4⟩
    | m2 dss =>
      obtain ⟨b, rs, q1, q2, q3, q4⟩ := e3
      refine ⟨b, rs, q1, q2, keepO _ _ q3 (na b (by rw [q1]; exact List.mem_cons_self)), ?_⟩
      have rows : ∀ (dss : List (List PyData)) (rs : List Addr), (∀ r ∈ rs, r ≠ p) → Rows (w.hold p vs).M H dss rs → Rows (w.hold p vs).M (L2.upd H p (.lst vs')) dss rs := by
        intro dss
        induction dss with
        | nil => exact fun rs _ q => q
        | cons ds dss ih =>
          intro rs hn q
          obtain ⟨r, rr, us, rfl, z1, z2, z3⟩ := q
          exact ⟨r, rr, us, rfl, keepO _ _ z1 (hn r List.mem_cons_self), Reps.fr f _ _ z2, ih rr (fun c hc => hn c (List.mem_cons_of_mem _ hc)) z3⟩
      exact rows dss rs (fun r hr => na r (by rw [q1]; exact List.mem_cons_of_mem _ hr)) q4
  · rw [em] at h
    by_cases hh : a = p
    · exact ⟨_, by rw [hh]; exact upd_same⟩
    · obtain ⟨u, e⟩ := o.dom a h
      exact ⟨u, keepO _ _ e hh⟩
  · by_cases hh : b = p
    · obtain ⟨ps, hps⟩ := o.hf (p, vs) List.mem_cons_self u (by show w.H0 p = some u; rw [← hh]; exact e)
      exact absurd hps (t ps)
    · exact keepO _ _ (o.fr b u e n t) hh
  · obtain ⟨ps, h1, h2, h3⟩ := o.tabs q hq
    refine ⟨ps, keepO _ _ h1 (fun z => ?_), h2, fun pos cv hc => ?_⟩
    · rw [z, hp] at h1
      cases h1
    · obtain ⟨c, e1, e2⟩ := h3 pos cv hc
      refine ⟨c, e1, keepO _ _ e2 (fun z => ?_)⟩
      rw [z, hp] at e2
      have e2 := Option.some.inj e2
      unfold LamX.CodeO at e2
      cases e2
  · rcases List.mem_cons.mp hq with rfl | hq
    · exact upd_same
    · exact keepO _ _ (o.held q (List.mem_cons_of_mem _ hq)) (nh q hq)
  · rcases List.mem_cons.mp hq with rfl | hq
    · exact o.hd (p, vs) List.mem_cons_self
    · exact o.hd q (List.mem_cons_of_mem _ hq)
  · rcases List.mem_cons.mp hq with rfl | hq
    · exact o.hf (p, vs) List.mem_cons_self
    · exact o.hf q (List.mem_cons_of_mem _ hq)
  · by_cases hh : a = p
    · exact ⟨_, by rw [hh]; exact upd_same⟩
    · obtain ⟨u, e⟩ := o.p0 a h
      exact ⟨u, keepO _ _ e hh⟩
  · rw [em]
    exact Rep.fr f _ _ (o.keep q hq)
/-- the list that was made is let go -/
theorem Ok.drop {p : Addr} {vs : List V} (o : Ok (w.hold p vs) en σ H) : Ok w en σ H := by
  have mm : ∀ a, w.M a → (w.hold p vs).M a := fun a h => Wd.hold_M.mpr (.inl h)
  refine ⟨o.la, o.ls, fun i sl e => ?_, o.dj, o.nd, o.fresh, fun a h => o.dom a (mm a h), o.fr, o.tabs, fun q hq => o.held q (List.mem_cons_of_mem _ hq), fun q hq => o.hd q (List.mem_cons_of_mem _ hq), fun q hq => o.hf q (List.mem_cons_of_mem _ hq), o.p0, fun q hq => Rep.weak mm _ _ (o.keep q hq)⟩
  obtain ⟨l, x, e1, e2, e3⟩ := o.slot i sl e
  exact ⟨l, x, e1, e2, SlOk.more (fun a h => .inl (mm a h)) e3⟩
end
end N

set_option Elab.async false
set_option linter.all false
set_option maxRecDepth 100000
set_option maxHeartbeats 4000000
/-! N6: what is walked; targets; comprehensions. -/
namespace N
open PySem PySem.Spec PyProof.Rows L2
variable [TabOf]
def Wd.kp (w : Wd) (d : PyData) (v : V) : Wd := { w with keep := (d, v) :: w.keep }
section
variable {w : Wd} {en : En} {σ : L2.St} {H H' : Hp} {i : Nat} {d : PyData} {v : V}
theorem Ok.kp (o : Ok w en σ H) (r : Rep w.M H d v) : Ok (w.kp d v) en σ H :=
  ⟨o.la, o.ls, o.slot, o.dj, o.nd, o.fresh, o.dom, o.fr, o.tabs, o.held, o.hd, o.hf, o.p0, fun p hp => by
    rcases List.mem_cons.mp hp with rfl | hp
    · exact r
    · exact o.keep p hp⟩
theorem Ok.unkp (o : Ok (w.kp d v) en σ H) : Ok w en σ H ∧ Rep w.M H d v :=
  ⟨⟨o.la, o.ls, o.slot, o.dj, o.nd, o.fresh, o.dom, o.fr, o.tabs, o.held, o.hd, o.hf, o.p0, fun p hp => o.keep p (List.mem_cons_of_mem _ hp)⟩, o.keep (d, v) List.mem_cons_self⟩
end
/-! ### what is walked -/
omit [TabOf] in
def Src (J : It) (sd : PyData) (sv : V) (ds : List PyData) : Prop := ∀ (M : Addr → Prop) (H : Hp), Rep M H sd sv →
  (∀ i d, ds[i]? = some d → J.go i H ∧ ∀ x H', J.yld i H x H' → H' = H ∧ Rep M H d x) ∧ (∀ i, ds.length ≤ i → J.stop i H)
def EvI (wi : TI) (F : FA) : Prop := ∀ (w : Wd) (en : En) (σ : L2.St) (H : Hp) (ds : List PyData) (en' : En), Ok w en σ H → F en = some (ds, en') →
  ∀ R : It → Hp → Prop, (∀ J sd sv H', Fr w.M H H' → Ok w en' σ H' → Rep w.M H' sd sv → Src J sd sv ds → ds.length ≤ 100000 → R J H') → wi σ H R
omit [TabOf] in
/-- a list or a tuple -/
def iSeq (K : PySem.W.Frag) (tl : TE) : TI := fun σ H R => tl σ H fun x H1 => ∃ a, x = .ref a ∧ (((∃ xs, SqL K H1 a xs) ∧ R (Itl K a) H1) ∨ ((∃ xs, SqT K H1 a xs) ∧ R (Itt K a) H1))
theorem pi_seq {X : Cx} {tg l : Expr} {tl : TE} (hl : PE X l tl) : PI X tg l (iSeq X.K tl) := by
  refine ⟨fun pins s σ H R I h => ?_⟩
  refine thn (hl.run pins s σ H _ I h) fun v s1 ⟨x, H1, I1, r1, q1⟩ => ?_
  obtain ⟨a, e, ⟨⟨xs, hq⟩, q⟩ | ⟨⟨xs, hq⟩, q⟩⟩ := q1
  · subst e
    cases r1
    obtain ⟨its, rv, p, hz⟩ := I1.list hq
    refine wpAny_pyIter_list p.isList ?_
    refine ⟨s1.heap.objs.size, [s1.heap.objs.size], _, _, H1, rfl, I1.kept (t' := s1.toks) fun b o e => Heap.get?_push_of_some _ e, turn_list a _, ⟨_, Heap.get?_push_size _ rfl, rfl, rfl⟩, fun b hb => ?_, q⟩
    have e : b = s1.heap.objs.size := by simpa using hb
    subst e
    exact I1.fpOk (Nat.le_refl _) (I1.hok.fresh (Nat.le_refl _))
  · subst e
    cases r1
    obtain ⟨its, rv, p, hz⟩ := I1.tuple hq
    refine wpAny_pyIter_tuple (show s1.heap.IsTuple a its.toArray from p) ?_
    refine ⟨s1.heap.objs.size, [s1.heap.objs.size], _, _, H1, rfl, I1.kept (t' := s1.toks) fun b o e => Heap.get?_push_of_some _ e, turn_tuple a _, ⟨_, Heap.get?_push_size _ rfl, rfl, rfl⟩, fun b hb => ?_, q⟩
    have e : b = s1.heap.objs.size := by simpa using hb
    subst e
    exact I1.fpOk (Nat.le_refl _) (I1.hok.fresh (Nat.le_refl _))
omit [TabOf] in
def fSeq (F : FE) : FA := fun en => (F en).bind fun p => match p.1 with
  | .list ds => if ds.length ≤ 100000 then some (ds, p.2) else none
  | .tuple ds => if ds.length ≤ 100000 then some (ds, p.2) else none
  | _ => none
theorem sql_inj {K : PySem.W.Frag} {H : Hp} {a : Addr} {xs ys : List V} (h : H a = some (.lst xs)) (hk : K.lookup a = none) (q : SqL K H a ys) : ys = xs := by
  rcases q with (q | ⟨o, q⟩) | ⟨o, its, n, q, _⟩
  · rw [h] at q
    cases q
    rfl
  · rw [h] at q
    cases q
  · rw [hk] at q
    cases q
theorem ei_seq {K : PySem.W.Frag} {tl : TE} {F : FE} (h : Ev tl F) : EvI (iSeq K tl) (fSeq F) := fun w en σ H ds en' o e R q => by
  unfold fSeq at e
  cases e1 : F en with
  | none => rw [e1] at e; cases e
  | some p =>
    rw [e1] at e
    obtain ⟨d, e2⟩ := p
    simp only [Option.bind_some] at e
    cases d with
    | list ds' =>
      by_cases hz : ds'.length ≤ 100000
      · simp only [if_pos hz] at e
        cases e
        refine h w en σ H _ _ o e1 _ fun v H1 f1 o1 r1 => ?_
        obtain ⟨a, vs, rfl, n, r, k⟩ := id r1
        refine ⟨a, rfl, .inl ⟨⟨vs, .inl (.inl r)⟩, q _ (.list ds) (.ref a) H1 f1 o1 r1 (fun M H' rr => ?_) hz⟩⟩
        obtain ⟨a', vs', ea, n', r', k'⟩ := rr
        cases ea
        refine ⟨fun i d hd => ?_, fun i hi => ⟨vs', .inl (.inl r'), by rw [k'.length]; exact hi⟩⟩
        obtain ⟨v, hv, rv⟩ := k'.get hd
        refine ⟨⟨vs', v, .inl (.inl r'), hv⟩, fun x H2 ⟨e3, y⟩ => ⟨e3, ?_⟩⟩
        have z := y vs' (.inl (.inl r'))
        rw [hv] at z
        cases z
        exact rv
      · simp only [if_neg hz] at e
        cases e
    | tuple ds' =>
      by_cases hz : ds'.length ≤ 100000
      · simp only [if_pos hz] at e
        cases e
        refine h w en σ H _ _ o e1 _ fun v H1 f1 o1 r1 => ?_
        obtain ⟨a, vs, rfl, n, r, k⟩ := id r1
        refine ⟨a, rfl, .inr ⟨⟨vs, .inl (.inl r)⟩, q _ (.tuple ds) (.ref a) H1 f1 o1 r1 (fun M H' rr => ?_) hz⟩⟩
        obtain ⟨a', vs', ea, n', r', k'⟩ := rr
        cases ea
        refine ⟨fun i d hd => ?_, fun i hi => ⟨vs', .inl (.inl r'), by rw [k'.length]; exact hi⟩⟩
        obtain ⟨v, hv, rv⟩ := k'.get hd
        refine ⟨⟨vs', v, .inl (.inl r'), hv⟩, fun x H2 ⟨e3, y⟩ => ⟨e3, ?_⟩⟩
        have z := y vs' (.inl (.inl r'))
        rw [hv] at z
        cases z
        exact rv
      · simp only [if_neg hz] at e
        cases e
    | _ => cases e
omit [TabOf] in
/-- lo, lo + 1, .. -/
def rngD (lo : Int) (n : Nat) : List PyData := (List.range n).map fun (i : Nat) => .int (lo + (i : Int))
theorem rngD_length (lo : Int) (n : Nat) : (rngD lo n).length = n := by
  unfold rngD
  rw [List.length_map, List.length_range]
theorem src_range (lo : Int) (n : Nat) : Src (Itr lo n) .none .non (rngD lo n) := fun M H _ => by
  refine ⟨fun i d hd => ?_, fun i hi => by rw [rngD_length] at hi; exact hi⟩
  have hi : i < n := by
    have z := get_lt hd
    rwa [rngD_length] at z
  refine ⟨hi, fun x H' ⟨e, ex⟩ => ⟨e, ?_⟩⟩
  unfold rngD at hd
  rw [List.getElem?_map, List.getElem?_range hi] at hd
  cases hd
  exact ex
omit [TabOf] in
def rgOk (a b : Int) : Bool := decide (-100000 ≤ a) && decide (a ≤ 100000) && decide (-100000 ≤ b) && decide (b ≤ 100000) && decide (b - a ≤ 100000)
omit [TabOf] in
def fRg1 (F : FE) : FA := fun en => (F en).bind fun p => match p.1 with
  | .int n => if rgOk 0 n = true then some (rngD 0 n.toNat, p.2) else none
  | _ => none
omit [TabOf] in
def fRg2 (A : FA) : FA := fun en => (A en).bind fun p => match p.1 with
  | [.int a, .int b] => if rgOk a b = true then some (rngD a (b - a).toNat, p.2) else none
  | _ => none
theorem rgOk_ok {a b : Int} (h : rgOk a b = true) : -100000 ≤ a ∧ a ≤ 100000 ∧ -100000 ≤ b ∧ b ≤ 100000 ∧ b - a ≤ 100000 := by
  unfold rgOk at h
  simp only [Bool.and_eq_true, decide_eq_true_eq] at h
  obtain ⟨⟨⟨⟨h1, h2⟩, h3⟩, h4⟩, h5⟩ := h
  exact ⟨h1, h2, h3, h4, h5⟩
theorem ei_rg1 {ta : TE} {F : FE} (h : Ev ta F) : EvI (iRng1 (tCons ta tNil)) (fRg1 F) := fun w en σ H ds en' o e R q => by
  unfold fRg1 at e
  cases e1 : F en with
  | none => rw [e1] at e; cases e
  | some p =>
    rw [e1] at e
    obtain ⟨d, e2⟩ := p
    simp only [Option.bind_some] at e
    cases d with
    | int n =>
      by_cases hz : rgOk 0 n = true
      · simp only [if_pos hz] at e
        cases e
        obtain ⟨_, _, h3, h4, h5⟩ := rgOk_ok hz
        refine h w en σ H _ _ o e1 _ fun v H1 f1 o1 r1 => ?_
        have r1 : v = _ := r1
        subst r1
        refine ⟨n, rfl, by omega, by omega, q _ .none .non H1 f1 o1 rfl (src_range 0 n.toNat) ?_⟩
        rw [rngD_length]
        omega
      · simp only [if_neg hz] at e
        cases e
    | _ => cases e
theorem ei_rg2 {ta : TA} {A : FA} (h : EvA ta A) : EvI (iRng2 ta) (fRg2 A) := fun w en σ H ds en' o e R q => by
  unfold fRg2 at e
  cases e1 : A en with
  | none => rw [e1] at e; cases e
  | some p =>
    rw [e1] at e
    obtain ⟨as, e2⟩ := p
    simp only [Option.bind_some] at e
    split at e
    · rename_i a b
      split at e
      · rename_i hz
        cases e
        obtain ⟨h1, h2, h3, h4, h5⟩ := rgOk_ok hz
        refine h w en σ H _ _ o e1 _ fun vs H1 f1 o1 r1 => ?_
        have ev := reps_two r1
        subst ev
        refine ⟨a, b, rfl, ⟨by omega, by omega, by omega, by omega⟩, q _ .none .non H1 f1 o1 rfl (src_range a (b - a).toNat) ?_⟩
        rw [rngD_length]
        omega
      · cases e
    · cases e
/-! ### targets -/
omit [TabOf] in
abbrev FG := PyData → En → Option En
theorem wipe_in {σ : L2.St} {i : Nat} : ∀ {vs : List Nat}, i ∈ vs → i < σ.length → (L2.wipe σ vs)[i]? = some none
  | v :: vs, h, hl => by
    unfold L2.wipe
    by_cases hv : v = i
    · subst hv
      rw [List.getElem?_set_self (by rw [wipe_length]; exact hl)]
    · rw [List.getElem?_set_ne hv]
      refine wipe_in ?_ hl
      rcases List.mem_cons.mp h with e | e
      · exact absurd e.symm hv
      · exact e
theorem wipe_set {σ : L2.St} {i : Nat} {x : Option V} {vs : List Nat} (h : i ∈ vs) : L2.wipe (σ.set i x) vs = L2.wipe σ vs := by
  refine List.ext_getElem? fun j => ?_
  by_cases hl : j < σ.length
  · by_cases hj : j ∈ vs
    · rw [wipe_in hj (by rw [List.length_set]; exact hl), wipe_in hj hl]
    · rw [wipe_out hj, wipe_out hj, List.getElem?_set_ne (fun z => hj (by rw [← z]; exact h))]
  · rw [List.getElem?_eq_none (by rw [wipe_length, List.length_set]; omega), List.getElem?_eq_none (by rw [wipe_length]; omega)]
def EvG (g : TG) (tg : FG) (ts : List Nat) : Prop := ∀ (w : Wd) (en : En) (σ : L2.St) (H : Hp) (d : PyData) (x : V) (en' : En), Ok w en σ H → Rep w.M H d x → tg d en = some en' →
  ∀ Q : L2.St → Hp → Prop, (∀ σ', (∀ vs, (∀ i ∈ ts, i ∈ vs) → L2.wipe σ' vs = L2.wipe σ vs) → Ok w en' σ' H → Q σ' H) → g x σ H Q
def EvGs (g : TGs) (is : List Nat) (tg : List PyData → En → Option En) : Prop := ∀ (w : Wd) (en : En) (σ : L2.St) (H : Hp) (ds : List PyData) (xs : List V) (en' : En), Ok w en σ H → Reps w.M H ds xs → tg ds en = some en' →
  ∀ Q : L2.St → Hp → Prop, (∀ σ', (∀ vs, (∀ i ∈ is, i ∈ vs) → L2.wipe σ' vs = L2.wipe σ vs) → Ok w en' σ' H → Q σ' H) → g xs σ H Q
omit [TabOf] in
def tgN (i : Nat) : FG := fun d en => if isPlain en[i]? = true then some (en.set i (.im d)) else none
theorem eg_name {i : Nat} : EvG (gName i) (tgN i) [i] := fun w en σ H d x en' o r e Q q => by
  unfold tgN at e
  split at e
  · rename_i h
    cases e
    exact q _ (fun vs hv => wipe_set (hv i List.mem_cons_self)) (o.set (o.plain h) r)
  · cases e
omit [TabOf] in
def tgL : List Nat → List PyData → En → Option En
  | [], [], en => some en
  | i :: is, d :: ds, en => (tgN i d en).bind fun en' => tgL is ds en'
  | _, _, _ => none
theorem egs_nil : EvGs gNil [] (tgL []) := fun w en σ H ds xs en' o r e Q q => by
  cases ds with
  | nil =>
    cases e
    exact ⟨r, q σ (fun _ _ => rfl) o⟩
  | cons _ _ => cases e
theorem egs_cons {i : Nat} {is : List Nat} {g : TGs} (h : EvGs g is (tgL is)) : EvGs (gCons (gName i) g) (i :: is) (tgL (i :: is)) := fun w en σ H ds xs en' o r e Q q => by
  cases ds with
  | nil => cases e
  | cons d ds =>
    have e : (tgN i d en).bind (fun en' => tgL is ds en') = some en' := e
    cases e1 : tgN i d en with
    | none => rw [e1] at e; cases e
    | some e2 =>
      rw [e1] at e
      obtain ⟨v, vr, rfl, r1, r2⟩ := r
      refine ⟨v, vr, rfl, ?_⟩
      refine eg_name w en σ H d v e2 o r1 e1 _ fun σ' hw o' => ?_
      exact h w e2 σ' H ds vr en' o' r2 e Q fun σ2 hw2 o2 => q σ2 (fun vs hv => (hw2 vs fun j hj => hv j (List.mem_cons_of_mem _ hj)).trans (hw vs fun j hj => hv j (by
        rcases List.mem_cons.mp hj with rfl | hj
        · exact List.mem_cons_self
        · cases hj))) o2
omit [TabOf] in
def tgT (is : List Nat) : FG := fun d en => match d with
  | .tuple ds => tgL is ds en
  | _ => none
theorem tgL_len : ∀ {is : List Nat} {ds : List PyData} {en en' : En}, tgL is ds en = some en' → ds.length = is.length
  | [], [], _, _, _ => rfl
  | [], _ :: _, _, _, h => by cases h
  | _ :: _, [], _, _, h => by cases h
  | i :: is, d :: ds, en, en', h => by
    have h : (tgN i d en).bind (fun en' => tgL is ds en') = some en' := h
    cases e1 : tgN i d en with
    | none => rw [e1] at h; cases h
    | some e2 =>
      rw [e1] at h
      rw [List.length_cons, List.length_cons, tgL_len h]
theorem eg_tup {K : PySem.W.Frag} {is : List Nat} {g : TGs} {n : Nat} (h : EvGs g is (tgL is)) (hn : is.length = n := by rfl) : EvG (gTup K n g) (tgT is) is := fun w en σ H d x en' o r e Q q => by
  unfold tgT at e
  split at e
  · rename_i ds
    obtain ⟨a, vs, rfl, nm, rr, k⟩ := r
    exact ⟨a, vs, rfl, .inl (.inl rr), by rw [k.length, tgL_len e]; exact hn, h w en σ H ds vs en' o k e Q q⟩
  · cases e

/-! ### comprehensions -/
omit [TabOf] in
def fYes : FB := fun en => some (true, en)
theorem eb_yes : EvB tYes fYes := fun w en σ H b en' o e Q q => by
  cases e
  exact q H Fr.refl o
/-- a new list is the value -/
def EvF (te : TE) (F : FE) : Prop := ∀ (w : Wd) (en : En) (σ : L2.St) (H : Hp) (d : PyData) (en' : En), Ok w en σ H → F en = some (d, en') →
  ∃ ds, d = .list ds ∧ ∀ Q : VK, (∀ p vs H', ¬ w.M p → Fr w.M H H' → Ok (w.hold p vs) en' σ H' → Reps (w.hold p vs).M H' ds vs → Q (.ref p) H') → te σ H Q
theorem EvF.ev {te : TE} {F : FE} (h : EvF te F) : Ev te F := fun w en σ H d en' o e Q q => by
  obtain ⟨ds, rfl, k⟩ := h w en σ H d en' o e
  refine k Q fun p vs H' hp f o' r => ?_
  have hl := o'.held (p, vs) List.mem_cons_self
  exact q _ H' f o'.drop ⟨p, vs, rfl, hp, hl, Reps.weak (fun a z => Wd.hold_M.mpr (.inl z)) _ _ r⟩
omit [TabOf] in
def lcGo (tg : FG) (ft : FB) (fe : FE) (vs : List Nat) : List PyData → En → Option (List PyData × En)
  | [], e => some ([], e)
  | d :: ds, e => (tg d e).bind fun e1 => (ft e1).bind fun q => if q.1 = true then (fe q.2).bind fun y => (lcGo tg ft fe vs ds (wipeE y.2 vs)).map fun r => (y.1 :: r.1, r.2) else lcGo tg ft fe vs ds (wipeE q.2 vs)
omit [TabOf] in
def fLc (I : FA) (tg : FG) (ft : FB) (fe : FE) (vs : List Nat) : FE := fun en => (I en).bind fun p => if ownOk p.2 vs = true then (lcGo tg ft fe vs p.1 (wipeE p.2 vs)).map fun r => (.list r.1, restore r.2 p.2 vs) else none
theorem ownOk_as {w : Wd} {en : En} {σ : L2.St} {H : Hp} {vs : List Nat} (o : Ok w en σ H) (h : ownOk en vs = true) : ∀ i ∈ vs, w.as[i]? = some [] := fun i hi => o.plain (List.all_eq_true.mp h i hi)
omit [TabOf] in
/-- the own names' data are kept beside -/
def keepAll (en : En) (σ : L2.St) : List Nat → List (PyData × V)
  | [] => []
  | i :: vs => match en[i]?, σ[i]? with
    | some (.im d), some (some v) => (d, v) :: keepAll en σ vs
    | _, _ => keepAll en σ vs
theorem keepAll_mem {en : En} {σ : L2.St} {d : PyData} {v : V} {i : Nat} : ∀ {vs : List Nat}, i ∈ vs → en[i]? = some (.im d) → σ[i]? = some (some v) → (d, v) ∈ keepAll en σ vs
  | j :: vs, h, e1, e2 => by
    unfold keepAll
    by_cases hj : j = i
    · subst hj
      rw [e1, e2]
      exact List.mem_cons_self
    · have h2 : i ∈ vs := by
        rcases List.mem_cons.mp h with e | e
        · exact absurd e.symm hj
        · exact e
      split
      · exact List.mem_cons_of_mem _ (keepAll_mem h2 e1 e2)
      · exact keepAll_mem h2 e1 e2
theorem keepAll_rep {w : Wd} {en : En} {σ : L2.St} {H : Hp} (o : Ok w en σ H) : ∀ {vs : List Nat} {p : PyData × V}, p ∈ keepAll en σ vs → Rep w.M H p.1 p.2
  | i :: vs, p, h => by
    unfold keepAll at h
    split at h
    · rename_i d v e1 e2
      rcases List.mem_cons.mp h with rfl | h
      · obtain ⟨v', e3, r⟩ := o.at e1
        rw [e2] at e3
        cases e3
        exact r
      · exact keepAll_rep o h
    · exact keepAll_rep o h
def Wd.kps (w : Wd) (l : List (PyData × V)) : Wd := { w with keep := l ++ w.keep }
theorem Ok.kps {w : Wd} {en : En} {σ : L2.St} {H : Hp} (o : Ok w en σ H) {l : List (PyData × V)} (r : ∀ p ∈ l, Rep w.M H p.1 p.2) : Ok (w.kps l) en σ H :=
  ⟨o.la, o.ls, o.slot, o.dj, o.nd, o.fresh, o.dom, o.fr, o.tabs, o.held, o.hd, o.hf, o.p0, fun p hp => by
    rcases List.mem_append.mp hp with hp | hp
    · exact r p hp
    · exact o.keep p hp⟩
theorem Ok.unkps {w : Wd} {en : En} {σ : L2.St} {H : Hp} {l : List (PyData × V)} (o : Ok (w.kps l) en σ H) : Ok w en σ H ∧ ∀ p ∈ l, Rep w.M H p.1 p.2 :=
  ⟨⟨o.la, o.ls, o.slot, o.dj, o.nd, o.fresh, o.dom, o.fr, o.tabs, o.held, o.hd, o.hf, o.p0, fun p hp => o.keep p (List.mem_append_right _ hp)⟩, fun p hp => o.keep p (List.mem_append_left _ hp)⟩
/-- the own names' slots come back -/
theorem Ok.restore {w w0 : Wd} {e e0 : En} {σ : L2.St} {H H0 : Hp} {vs : List Nat} (o : Ok w e (L2.wipe σ vs) H) (o0 : Ok w0 e0 σ H0) (hw : w0.as = w.as) (ho : ownOk e0 vs = true) (k : ∀ p ∈ keepAll e0 σ vs, Rep w.M H p.1 p.2) : Ok w (restore e e0 vs) σ H := by
  have hl : e.length = e0.length := by rw [← o.la, ← o0.la, hw]
  refine ⟨by rw [restore_length]; exact o.la, by rw [restore_length, ← o.ls, wipe_length], fun i s hs => ?_, o.dj, o.nd, o.fresh, o.dom, o.fr, o.tabs, o.held, o.hd, o.hf, o.p0, o.keep⟩
  by_cases hi : i ∈ vs
  · rw [restore_in hl hi] at hs
    have ha := ownOk_as o0 ho i hi
    obtain ⟨a, x, e1, e2, e3⟩ := o0.slot i s hs
    rw [ha] at e1
    cases e1
    refine ⟨[], x, by rw [← hw]; exact ha, e2, ?_⟩
    cases s with
    | no => rfl
    | im d =>
      obtain ⟨_, v, rfl, r⟩ := e3
      exact ⟨rfl, v, rfl, k _ (keepAll_mem hi hs e2)⟩
    | mu ds =>
      obtain ⟨b, us, q1, _⟩ := e3
      cases q1
    | m2 ds =>
      obtain ⟨b, us, q1, _⟩ := e3
      cases q1
  · rw [restore_out hi] at hs
    obtain ⟨a, x, e1, e2, e3⟩ := o.slot i s hs
    rw [wipe_out hi] at e2
    exact ⟨a, x, e1, e2, e3⟩
theorem ef_lc {wi : TI} {g : TG} {tt : TT} {te : TE} {vs ts : List Nat} {I : FA} {tg : FG} {ft : FB} {fe : FE} (hI : EvI wi I) (hG : EvG g tg ts) (hT : EvB tt ft) (hE : Ev te fe) (hts : ∀ i ∈ ts, i ∈ vs := by decide) : EvF (tLc wi g tt te vs) (fLc I tg ft fe vs) := fun w en σ H d en' o e => by
  unfold fLc at e
  cases e1 : I en with
  | none => rw [e1] at e; cases e
  | some p =>
    rw [e1] at e
    obtain ⟨ds, e0⟩ := p
    simp only [Option.bind_some] at e
    by_cases ho : ownOk e0 vs = true
    · simp only [if_pos ho] at e
      cases e2 : lcGo tg ft fe vs ds (wipeE e0 vs) with
      | none => rw [e2] at e; cases e
      | some r =>
        rw [e2] at e
        obtain ⟨out, eF⟩ := r
        cases e
        refine ⟨out, rfl, fun Q q => ?_⟩
        refine hI w en σ H ds e0 o e1 _ fun J sd sv H1 f1 o1 rs hs hz => ?_
        intro D hD
        have nh : ∀ q ∈ w.held, q.1 ≠ D := fun q hq z => by
          have z2 := o1.held q hq
          rw [z, hD] at z2
          cases z2
        -- the world of the turns
        have oA : Ok ((w.kps (keepAll e0 σ vs)).kp sd sv) e0 σ H1 := (o1.kps fun p hp => keepAll_rep o1 hp).kp rs
        have as0 := ownOk_as o1 ho
        refine ⟨fun i m H' => i + m = ds.length ∧ ∃ (eni : En) (od : List PyData) (ov : List V) (rest : List PyData), Ok (((w.kps (keepAll e0 σ vs)).kp sd sv).hold D ov) eni (L2.wipe σ vs) H' ∧ Reps (w.hold D ov).M H' od ov ∧ od.length ≤ i ∧ Fr w.M H1 H' ∧ lcGo tg ft fe vs (ds.drop i) eni = some (rest, eF) ∧ od ++ rest = out,
          ⟨ds.length, by omega, wipeE e0 vs, [], [], out, ?_, .nil, Nat.zero_le _, Fr.of (same_upd hD), by rw [List.drop_zero]; exact e2, rfl⟩, ?_⟩
        · exact (oA.lay hD []).wipe vs as0
        · rintro i m H' ⟨him, eni, od, ov, rest, oi, ri, hl, fi, hgo, hout⟩
          have oi' := oi
          have rsi : Rep (w.hold D ov).M H' sd sv := oi.keep (sd, sv) List.mem_cons_self
          obtain ⟨sg, ss⟩ := hs (w.hold D ov).M H' rsi
          by_cases hi : i < ds.length
          · obtain ⟨dd, hdd⟩ : ∃ dd, ds[i]? = some dd := ⟨ds[i], List.getElem?_eq_getElem hi⟩
            obtain ⟨go, yl⟩ := sg i dd hdd
            have hdrop : ds.drop i = dd :: ds.drop (i + 1) := by
              rw [List.drop_eq_getElem_cons hi]
              rw [List.getElem?_eq_getElem hi] at hdd
              cases hdd
              rfl
            rw [hdrop] at hgo
            have hgo : (tg dd eni).bind (fun e1 => (ft e1).bind fun q => if q.1 = true then (fe q.2).bind fun y => (lcGo tg ft fe vs (ds.drop (i + 1)) (wipeE y.2 vs)).map fun r => (y.1 :: r.1, r.2) else lcGo tg ft fe vs (ds.drop (i + 1)) (wipeE q.2 vs)) = some (rest, eF) := hgo
            cases k1 : tg dd eni with
            | none => rw [k1] at hgo; cases hgo
            | some ea =>
              rw [k1] at hgo
              simp only [Option.bind_some] at hgo
              cases k2 : ft ea with
              | none => rw [k2] at hgo; cases hgo
              | some qb =>
                rw [k2] at hgo
                obtain ⟨bb, eb⟩ := qb
                simp only [Option.bind_some] at hgo
                refine .inr ⟨go, fun H' => ∃ m', m' < m ∧ (i + 1 + m' = ds.length ∧ ∃ (eni : En) (od : List PyData) (ov : List V) (rest : List PyData), Ok (((w.kps (keepAll e0 σ vs)).kp sd sv).hold D ov) eni (L2.wipe σ vs) H' ∧ Reps (w.hold D ov).M H' od ov ∧ od.length ≤ i + 1 ∧ Fr w.M H1 H' ∧ lcGo tg ft fe vs (ds.drop (i + 1)) eni = some (rest, eF) ∧ od ++ rest = out), fun H' h => h, fun x H2 hy => ?_⟩
                obtain ⟨eH, rx⟩ := yl x H2 hy
                subst eH
                refine hG _ eni (L2.wipe σ vs) H2 dd x ea oi' rx k1 _ fun σ2 hw o2 => ?_
                have hw2 : L2.wipe σ2 vs = L2.wipe σ vs := by
                  rw [hw vs hts]
                  refine List.ext_getElem? fun j => ?_
                  by_cases hlj : j < σ.length
                  · by_cases hj : j ∈ vs
                    · rw [wipe_in hj (by rw [wipe_length]; exact hlj), wipe_in hj hlj]
                    · rw [wipe_out hj]
                  · rw [List.getElem?_eq_none (by rw [wipe_length, wipe_length]; omega), List.getElem?_eq_none (by rw [wipe_length]; omega)]
                refine ⟨hw2, ?_⟩
                have asW : ∀ (ov : List V) i, i ∈ vs → ((((w.kps (keepAll e0 σ vs)).kp sd sv).hold D ov)).as[i]? = some [] := fun _ i hi => as0 i hi
                refine hT _ ea σ2 H2 bb eb o2 k2 _ fun H3 f3 o3 => ?_
                have f3' : Fr w.M H1 H3 := fun b u eb n t => f3 b u (fi b u eb n t) (fun z => by
                  rcases Wd.hold_M.mp z with z | z
                  · exact n z
                  · rw [z, hD] at eb
                    cases eb) t
                cases bb with
                | true =>
                  simp only [if_true] at hgo ⊢
                  cases k3 : fe eb with
                  | none => rw [k3] at hgo; cases hgo
                  | some qy =>
                    rw [k3] at hgo
                    obtain ⟨yd, ey⟩ := qy
                    simp only [Option.bind_some] at hgo
                    cases k4 : lcGo tg ft fe vs (ds.drop (i + 1)) (wipeE ey vs) with
                    | none => rw [k4] at hgo; cases hgo
                    | some rr =>
                      rw [k4] at hgo
                      obtain ⟨rest', eF'⟩ := rr
                      cases hgo
                      refine hE _ eb σ2 H3 yd ey o3 k3 _ fun y H4 f4 o4 r4 => ?_
                      have hHD : H4 D = some (.lst ov) := o4.held (D, ov) List.mem_cons_self
                      have lov : ov.length ≤ i := by rw [ri.length]; exact hl
                      have mD : (w.hold D ov).M D := Wd.hold_M.mpr (.inr rfl)
                      have em : (w.hold D (ov ++ [y])).M = (w.hold D ov).M := by
                        funext a
                        exact propext (Wd.hold_M.trans Wd.hold_M.symm)
                      refine ⟨ov, hHD, Nat.lt_of_le_of_lt lov (Nat.lt_of_lt_of_le hi (big hz)), m - 1, by omega, by omega, wipeE ey vs, od ++ [yd], ov ++ [y], rest', ?_, ?_, ?_, ?_, k4, ?_⟩
                      · have o5 := o4.grow (vs' := ov ++ [y]) nh
                        have o6 := o5.wipe vs (asW _)
                        rw [hw2] at o6
                        exact o6
                      · rw [em]
                        refine Reps.append ?_ (.cons ?_ .nil)
                        · exact Reps.fr (fr_upd mD) _ _ (Reps.fr (fun b u e n t => f4 b u (f3 b u e n t) n t) _ _ ri)
                        · exact Rep.fr (fr_upd mD) _ _ r4
                      · rw [List.length_append, List.length_singleton]
                        omega
                      · intro b u eb n t
                        have nD : b ≠ D := fun z => by
                          rw [z, hD] at eb
                          cases eb
                        rw [upd_ne nD]
                        exact f4 b u (f3' b u eb n t) (fun z => by
                          rcases Wd.hold_M.mp z with z | z
                          · exact n z
                          · exact nD z) t
                      · rw [List.append_assoc]
                        exact hout
                | false =>
                  simp only [Bool.false_eq_true, if_false] at hgo ⊢
                  refine ⟨m - 1, by omega, by omega, wipeE eb vs, od, ov, rest, ?_, ?_, by omega, f3', hgo, hout⟩
                  · have o6 := o3.wipe vs (asW _)
                    rw [hw2] at o6
                    exact o6
                  · exact Reps.fr f3 _ _ ri
          · refine .inl ⟨ss i (by omega), ?_⟩
            rw [List.drop_of_length_le (by omega)] at hgo
            cases hgo
            rw [List.append_nil] at hout
            subst hout
            have oF : Ok (((w.hold D ov).kps (keepAll e0 σ vs)).kp sd sv) eF (L2.wipe σ vs) H' := oi
            obtain ⟨oW, kk⟩ := oF.unkp.1.unkps
            exact q D ov H' (o1.dom.free hD) (f1.trans fi) (oW.restore o1 rfl ho kk) ri
    · simp only [if_neg ho] at e
      cases e
end N

set_option Elab.async false
set_option linter.all false
set_option maxRecDepth 100000
set_option maxHeartbeats 4000000
/-! N7: statements over data. -/
namespace N
open PySem PySem.Spec PyProof.Rows L2
variable [TabOf]
/-- how a statement ends -/
inductive Out where
  | nx (e : En) | rt (d : PyData) (e : En) | bk (e : En) | ct (e : En) | ex (x : Str) (e : En)
omit [TabOf] in
abbrev FS := En → Option Out
structure Ext (w w' : Wd) : Prop where
  mc : w'.Mc = w.Mc
  p0 : w'.P0 = w.P0
  h0 : w'.H0 = w.H0
  t : w'.T = w.T
  held : w'.held = w.held
  keep : w'.keep = w.keep
  as0 : w.P0 ≠ [] → w'.as[0]? = w.as[0]?
theorem Ext.refl (w : Wd) : Ext w w := ⟨rfl, rfl, rfl, rfl, rfl, rfl, fun _ => rfl⟩
theorem Ext.trans {a b c : Wd} (x : Ext a b) (y : Ext b c) : Ext a c := ⟨y.mc.trans x.mc, y.p0.trans x.p0, y.h0.trans x.h0, y.t.trans x.t, y.held.trans x.held, y.keep.trans x.keep, fun h => (y.as0 (by rw [x.p0]; exact h)).trans (x.as0 h)⟩
def Post (C : Addr) (E : XK) (w : Wd) (Dn : Ends) : Out → Prop
  | .nx e => ∀ w' σ' H', Ext w w' → Ok w' e σ' H' → Dn.nx σ' H'
  | .bk e => ∀ w' σ' H', Ext w w' → Ok w' e σ' H' → Dn.bk σ' H'
  | .ct e => ∀ w' σ' H', Ext w w' → Ok w' e σ' H' → Dn.ct σ' H'
  | .rt d e => ∀ w' v σ' H', Ext w w' → Ok w' e σ' H' → Rep w.Mc H' d v → Dn.rt v H'
  | .ex x e => ∀ w' σ' H' dd, Ext w w' → Ok w' e σ' H' → H' dd = some (.xd [(("name" : Str), .str x)]) → E (.ref C) (some dd) H'
/-- b: nothing came in to be changed -/
def EvS (b : Bool) (C : Addr) (E : XK) (ts : TS) (F : FS) : Prop := ∀ (w : Wd) (en : En) (σ : L2.St) (H : Hp) (out : Out), Ok w en σ H → w.held = [] → Dom w.Mc w.H0 → (b = true → w.P0 = []) → F en = some out → ∀ Dn : Ends, Post C E w Dn out → ts Dn σ H
theorem Post.ext {C : Addr} {E : XK} {w w1 : Wd} {Dn : Ends} {out : Out} (x : Ext w w1) (p : Post C E w Dn out) : Post C E w1 Dn out := by
  cases out with
  | nx e => exact fun w' σ' H' y o => p w' σ' H' (x.trans y) o
  | bk e => exact fun w' σ' H' y o => p w' σ' H' (x.trans y) o
  | ct e => exact fun w' σ' H' y o => p w' σ' H' (x.trans y) o
  | rt d e => exact fun w' v σ' H' y o r => p w' v σ' H' (x.trans y) o (by rw [x.mc] at r; exact r)
  | ex d e => exact fun w' σ' H' dd y o r => p w' σ' H' dd (x.trans y) o r
omit [TabOf] in
def sNext : FS := fun en => some (.nx en)
omit [TabOf] in
def sSeq (F1 F2 : FS) : FS := fun en => (F1 en).bind fun o => match o with
  | .nx e => F2 e
  | o => some o
section
variable {pb : Bool} {C : Addr} {E : XK} {t u : TS} {F F1 F2 : FS} {te ta tb : TE} {Fe Fa Fb : FE} {tt : TT} {A : FB} {K : PySem.W.Frag} {i : Nat}
theorem s_next : EvS pb C E tNext sNext := fun w en σ H out o hh D hpb e Dn p => by
  cases e
  exact p w σ H (.refl w) o
theorem s_seq (h1 : EvS pb C E t F1) (h2 : EvS pb C E u F2) : EvS pb C E (tSeq t u) (sSeq F1 F2) := fun w en σ H out o hh D hpb e Dn p => by
  unfold sSeq at e
  cases e1 : F1 en with
  | none => rw [e1] at e; cases e
  | some o1 =>
    rw [e1] at e
    simp only [Option.bind_some] at e
    refine h1 w en σ H o1 o hh D hpb e1 { Dn with nx := u Dn } ?_
    cases o1 with
    | nx e' =>
      exact fun w' σ' H' x o' => h2 w' e' σ' H' out o' (x.held.trans hh) (by rw [x.mc, x.h0]; exact D) (by rw [x.p0]; exact hpb) e Dn (p.ext x)
    | bk e' => cases e; exact p
    | ct e' => cases e; exact p
    | rt d e' => cases e; exact p
    | ex d e' => cases e; exact p
omit [TabOf] in
def sAsg (Fe : FE) (tg : FG) : FS := fun en => (Fe en).bind fun p => (tg p.1 p.2).map .nx
theorem s_asg {g : TG} {tg : FG} {ts : List Nat} (h : Ev te Fe) (hg : EvG g tg ts) : EvS pb C E (tAsg te g) (sAsg Fe tg) := fun w en σ H out o hh D hpb e Dn p => by
  unfold sAsg at e
  cases e1 : Fe en with
  | none => rw [e1] at e; cases e
  | some q =>
    rw [e1] at e
    simp only [Option.bind_some] at e
    cases e2 : tg q.1 q.2 with
    | none => rw [e2] at e; cases e
    | some e3 =>
      rw [e2] at e
      cases e
      refine h w en σ H q.1 q.2 o e1 _ fun v H1 f1 o1 r1 => ?_
      exact hg w q.2 σ H1 q.1 v e3 o1 r1 e2 _ fun σ' _ o' => p w σ' H1 (.refl w) o'
/-- a new list is given to a name whose list this def changes -/
def Wd.own (w : Wd) (i : Nat) (l : List Addr) : Wd := { w with as := w.as.set i l }
theorem Ok.letMu {w : Wd} {en : En} {σ : L2.St} {H : Hp} {p : Addr} {vs : List V} {ds : List PyData} (o : Ok (w.hold p vs) en σ H) (hh : w.held = []) (r : Reps (w.hold p vs).M H ds vs) (hi : i < en.length) :
    Ok (w.own i [p]) (en.set i (.mu ds)) (σ.set i (some (.ref p))) H := by
  have hia : i < w.as.length := by
    have z := o.la
    show i < (w.hold p vs).as.length
    rw [z]
    exact hi
  have hiσ : i < σ.length := by rw [o.ls]; exact hi
  have nl : ∀ (j : Nat) (l : List Addr), w.as[j]? = some l → p ∉ l := fun j l e m => o.hd (p, vs) List.mem_cons_self ⟨j, l, e, m⟩
  have at_ : ∀ (j : Nat) (l : List Addr), (w.own i [p]).as[j]? = some l → (j = i ∧ l = [p]) ∨ (j ≠ i ∧ w.as[j]? = some l) := fun j l e => by
    by_cases h : i = j
    · subst h
      have e : (w.as.set i [p])[i]? = some l := e
      rw [List.getElem?_set_self hia] at e
      cases e
      exact .inl ⟨rfl, rfl⟩
    · have e : (w.as.set i [p])[j]? = some l := e
      rw [List.getElem?_set_ne h] at e
      exact .inr ⟨fun z => h z.symm, e⟩
  have ml : ∀ a, (w.own i [p]).L a → w.L a ∨ a = p := fun a ⟨j, l, e, m⟩ => by
    rcases at_ j l e with ⟨_, rfl⟩ | ⟨_, e⟩
    · exact .inr (List.mem_singleton.mp m)
    · exact .inl ⟨j, l, e, m⟩
  have mm : ∀ a, (w.own i [p]).M a → (w.hold p vs).M a := fun a h => by
    rcases h with h | h | h
    · exact .inl h
    · rcases ml a h with h | h
      · exact .inr (.inl h)
      · exact Wd.hold_M.mpr (.inr h)
    · exact Wd.hold_M.mpr (.inl (.inr (.inr h)))
  have mo : ∀ a, (w.own i [p]).M a → (w.hold p vs).M a ∨ H a = Option.none := fun a h => .inl (mm a h)
  refine ⟨by rw [List.length_set]; show (w.as.set i [p]).length = _; rw [List.length_set]; exact o.la, by rw [List.length_set, List.length_set]; exact o.ls, fun j s e => ?_, fun j k l l' a e1 e2 m1 m2 => ?_, fun j l e => ?_, fun a h => ?_, fun a h => o.dom a (mm a h), o.fr, o.tabs, fun q hq => o.held q (List.mem_cons_of_mem _ hq), fun q hq h => ?_, fun q hq => o.hf q (List.mem_cons_of_mem _ hq), o.p0, fun q hq => Rep.weak mm _ _ (o.keep q hq)⟩
  · by_cases h : i = j
    · subst h
      rw [List.getElem?_set_self hi] at e
      cases e
      refine ⟨[p], _, by show (w.as.set i [p])[i]? = _; rw [List.getElem?_set_self hia], List.getElem?_set_self hiσ, p, vs, rfl, rfl, o.held (p, vs) List.mem_cons_self, Reps.weak mm _ _ r⟩
    · rw [List.getElem?_set_ne h] at e
      obtain ⟨a, x, e1, e2, e3⟩ := o.slot j s e
      exact ⟨a, x, by show (w.as.set i [p])[j]? = _; rw [List.getElem?_set_ne h]; exact e1, by rw [List.getElem?_set_ne h]; exact e2, SlOk.more mo e3⟩
  · rcases at_ j l e1 with ⟨h1, rfl⟩ | ⟨h1, e1⟩
    · rcases at_ k l' e2 with ⟨h2, rfl⟩ | ⟨h2, e2⟩
      · rw [h1, h2]
      · exact absurd (by rw [← List.mem_singleton.mp m1]; exact m2) (nl k l' e2)
    · rcases at_ k l' e2 with ⟨h2, rfl⟩ | ⟨h2, e2⟩
      · exact absurd (by rw [← List.mem_singleton.mp m2]; exact m1) (nl j l e1)
      · exact o.dj j k l l' a e1 e2 m1 m2
  · rcases at_ j l e with ⟨_, rfl⟩ | ⟨_, e⟩
    · exact List.nodup_cons.mpr ⟨by simp, List.nodup_nil⟩
    · exact o.nd j l e
  · rcases ml a h with h | h
    · exact o.fresh a h
    · rw [h]
      exact .inr (o.hf (p, vs) List.mem_cons_self)
  · have hq : q ∈ w.held := hq
    rw [hh] at hq
    cases hq
omit [TabOf] in
def sAsgMu (i : Nat) (Fe : FE) : FS := fun en => (Fe en).bind fun p => match p.1 with
  | .list ds => if i < p.2.length then some (.nx (p.2.set i (.mu ds))) else none
  | _ => none
/-- the first slot is left to what came in to be changed -/
theorem own0 {w : Wd} {i : Nat} {l : List Addr} {pb : Bool} (hi : i ≠ 0 ∨ pb = true) (hpb : pb = true → w.P0 = []) : w.P0 ≠ [] → (w.own i l).as[0]? = w.as[0]? := fun h => by
  rcases hi with hi | hi
  · show (w.as.set i l)[0]? = _
    rw [List.getElem?_set_ne hi]
  · exact absurd (hpb hi) h
theorem s_asgMu (h : EvF te Fe) (hi0 : i ≠ 0 ∨ pb = true := by first | exact .inr rfl | exact .inl (by decide)) : EvS pb C E (tAsg te (gName i)) (sAsgMu i Fe) := fun w en σ H out o hh D hpb e Dn p => by
  unfold sAsgMu at e
  cases e1 : Fe en with
  | none => rw [e1] at e; cases e
  | some q =>
    rw [e1] at e
    obtain ⟨d, e2⟩ := q
    obtain ⟨ds, rfl, k⟩ := h w en σ H d e2 o e1
    simp only [Option.bind_some] at e
    split at e
    · rename_i hi
      cases e
      refine k _ fun a vs H1 na f1 o1 r1 => ?_
      exact p (w.own i [a]) _ H1 ⟨rfl, rfl, rfl, rfl, rfl, rfl, own0 hi0 hpb⟩ (o1.letMu hh r1 hi)
    · cases e
omit [TabOf] in
/-- an expression whose value is dropped -/
def sDrop (Fe : FE) : FS := fun en => (Fe en).map fun p => .nx p.2
theorem s_drop (h : Ev te Fe) : EvS pb C E (tDrop te) (sDrop Fe) := fun w en σ H out o hh D hpb e Dn p => by
  unfold sDrop at e
  cases e1 : Fe en with
  | none => rw [e1] at e; cases e
  | some q =>
    rw [e1] at e
    cases e
    exact h w en σ H q.1 q.2 o e1 _ fun v H1 f1 o1 r1 => p w σ H1 (.refl w) o1
/-! ### methods of a list that this def changes -/
omit [TabOf] in
def muAt (en : En) (i : Nat) : Option (List PyData) := match en[i]? with
  | some (.mu ds) => some ds
  | _ => none
theorem muAt_eq {en : En} {i : Nat} {ds : List PyData} (h : muAt en i = some ds) : en[i]? = some (.mu ds) := by
  unfold muAt at h
  split at h
  · rename_i d e
    cases h
    exact e
  · cases h
omit [TabOf] in
def fApp (i : Nat) (Fe : FE) : FE := fun en => (muAt en i).bind fun _ => (Fe en).bind fun p => (muAt p.2 i).bind fun ds => if ds.length < 100000 then some (.none, p.2.set i (.mu (ds ++ [p.1]))) else none
theorem slot_inj {w : Wd} {en en' : En} {σ : L2.St} {H H' : Hp} (o : Ok w en σ H) (o' : Ok w en' σ H') {ds ds' : List PyData} (h : en[i]? = some (.mu ds)) (h' : en'[i]? = some (.mu ds')) :
    ∃ a vs vs', w.as[i]? = some [a] ∧ σ[i]? = some (some (.ref a)) ∧ H a = some (.lst vs) ∧ Reps w.M H ds vs ∧ H' a = some (.lst vs') ∧ Reps w.M H' ds' vs' := by
  obtain ⟨a, vs, a1, a2, a3, a4⟩ := o.mu h
  obtain ⟨b, us, b1, b2, b3, b4⟩ := o'.mu h'
  rw [a2] at b2
  cases b2
  exact ⟨a, vs, us, a1, a2, a3, a4, b3, b4⟩
theorem ev_app (h : Ev te Fe) : Ev (tBM K "list" rAppend (tVar i) (tCons te tNil)) (fApp i Fe) := fun w en σ H d en' o e Q q => by
  unfold fApp at e
  cases e0 : muAt en i with
  | none => rw [e0] at e; cases e
  | some ds0 =>
    rw [e0] at e
    simp only [Option.bind_some] at e
    cases e1 : Fe en with
    | none => rw [e1] at e; cases e
    | some p =>
      rw [e1] at e
      simp only [Option.bind_some] at e
      cases e2 : muAt p.2 i with
      | none => rw [e2] at e; cases e
      | some ds =>
        rw [e2] at e
        simp only [Option.bind_some] at e
        split at e
        · rename_i hz
          cases e
          obtain ⟨a, vs, a1, a2, a3, a4⟩ := o.mu (muAt_eq e0)
          refine ⟨.ref a, a2, .inl ⟨rfl, vs, .inl (.inl a3)⟩, ?_⟩
          refine h w en σ H p.1 p.2 o e1 _ fun v H1 f1 o1 r1 => ?_
          obtain ⟨b, us, us', b1, b2, b3, b4, b5, b6⟩ := slot_inj o o1 (muAt_eq e0) (muAt_eq e2)
          rw [a2] at b2
          cases b2
          refine ⟨a, us', v, rfl, rfl, b5, Nat.lt_of_lt_of_le (by rw [b6.length]; exact hz) (by decide : 100000 ≤ sizeLine), ?_⟩
          exact q _ _ (f1.trans (fr_upd (Wd.M_of a1 List.mem_cons_self))) (o1.updMu a1 a2 b5 (b6.append (.cons r1 .nil))) rfl
        · cases e
omit [TabOf] in
/-- found[j].append(e), found a list of lists -/
def fApp2 (i : Nat) (Fj Fe : FE) : FE := fun en => (Fj en).bind fun pj => (Fe pj.2).bind fun p => match pj.1, pj.2[i]?, p.2[i]? with
  | .int j, some (.m2 dss0), some (.m2 dss) => match ixN dss0.length j, ixN dss.length j with
    | some k0, some k => match dss0[k0]?, dss[k]? with
      | some _, some ds => if k0 = k ∧ ds.length < 100000 then some (.none, p.2.set i (.m2 (dss.set k (ds ++ [p.1])))) else none
      | _, _ => none
    | _, _ => none
  | _, _, _ => none
theorem Ok.m2 {w : Wd} {en : En} {σ : L2.St} {H : Hp} (o : Ok w en σ H) {i : Nat} {dss : List (List PyData)} (e : en[i]? = some (.m2 dss)) : ∃ a rs, w.as[i]? = some (a :: rs) ∧ σ[i]? = some (some (.ref a)) ∧ H a = some (.lst (rs.map V.ref)) ∧ Rows w.M H dss rs := by
  obtain ⟨as, x, e1, e2, a, rs, rfl, rfl, e3, r⟩ := o.slot i _ e
  exact ⟨a, rs, e1, e2, e3, r⟩
theorem Rows.get {M : Addr → Prop} {H : Hp} : ∀ {dss : List (List PyData)} {rs : List Addr} {k : Nat} {ds : List PyData}, Rows M H dss rs → dss[k]? = some ds → ∃ r vs, rs[k]? = some r ∧ H r = some (.lst vs) ∧ Reps M H ds vs
  | [], _, _, _, _, h => by simp at h
  | ds :: dss, _, 0, _, h, e => by
    obtain ⟨r, rr, vs, rfl, z1, z2, z3⟩ := h
    simp at e
    subst e
    exact ⟨r, vs, rfl, z1, z2⟩
  | ds :: dss, _, k + 1, _, h, e => by
    obtain ⟨r, rr, vs, rfl, z1, z2, z3⟩ := h
    obtain ⟨r', vs', h1, h2, h3⟩ := Rows.get (k := k) z3 (by simpa using e)
    exact ⟨r', vs', by simpa using h1, h2, h3⟩
theorem Rows.len {M : Addr → Prop} {H : Hp} : ∀ {dss : List (List PyData)} {rs : List Addr}, Rows M H dss rs → rs.length = dss.length
  | [], _, h => by cases (show _ = _ from h); rfl
  | ds :: dss, _, h => by
    obtain ⟨r, rr, vs, rfl, z1, z2, z3⟩ := h
    rw [List.length_cons, List.length_cons, Rows.len z3]
theorem Rows.set {M : Addr → Prop} {H H' : Hp} {r0 : Addr} {ds' : List PyData} {vs' : List V} (f : Fr M H H') (hk : ∀ b u, H b = some u → b ≠ r0 → H' b = some u) (h' : H' r0 = some (.lst vs')) (rr' : Reps M H' ds' vs') : ∀ {dss : List (List PyData)} {rs : List Addr} (k : Nat), rs.Nodup → rs[k]? = some r0 → Rows M H dss rs → Rows M H' (dss.set k ds') rs
  | [], _, _, _, _, h => h
  | ds :: dss, _, 0, nd, e, h => by
    obtain ⟨r, rr, vs, rfl, z1, z2, z3⟩ := h
    have e : r = r0 := by simpa using e
    subst e
    refine ⟨r, rr, vs', rfl, h', rr', ?_⟩
    have go : ∀ (dss : List (List PyData)) (rs : List Addr), r ∉ rs → Rows M H dss rs → Rows M H' dss rs := by
      intro dss
      induction dss with
      | nil => exact fun rs _ q => q
      | cons ds dss ih =>
        intro rs hn q
        obtain ⟨r2, rr, us, rfl, z1, z2, z3⟩ := q
        exact ⟨r2, rr, us, rfl, hk _ _ z1 (fun z => hn (by rw [z]; exact List.mem_cons_self)), Reps.fr f _ _ z2, ih rr (fun c => hn (List.mem_cons_of_mem _ c)) z3⟩
    exact go dss rr (List.nodup_cons.mp nd).1 z3
  | ds :: dss, _, k + 1, nd, e, h => by
    obtain ⟨r, rr, vs, rfl, z1, z2, z3⟩ := h
    have e : rr[k]? = some r0 := by simpa using e
    have nr : r ≠ r0 := fun z => (List.nodup_cons.mp nd).1 (by rw [z]; exact List.mem_of_getElem? e)
    exact ⟨r, rr, vs, rfl, hk _ _ z1 nr, Reps.fr f _ _ z2, Rows.set f hk h' rr' k (List.nodup_cons.mp nd).2 e z3⟩
theorem ev_app2 {tj : TE} {Fj : FE} (hj : Ev tj Fj) (hjp : ∀ en x e', Fj en = some (x, e') → e'[i]? = en[i]?) (h : Ev te Fe) : Ev (tBM K "list" rAppend (tOp (rIx K) (tVar i) tj) (tCons te tNil)) (fApp2 i Fj Fe) := fun w en σ H d en' o e Q q => by
  unfold fApp2 at e
  cases e1 : Fj en with
  | none => rw [e1] at e; cases e
  | some pj =>
    rw [e1] at e
    obtain ⟨dj, ej⟩ := pj
    simp only [Option.bind_some] at e
    cases e2 : Fe ej with
    | none => rw [e2] at e; cases e
    | some p =>
      rw [e2] at e
      obtain ⟨dv, ev⟩ := p
      simp only [Option.bind_some] at e
      split at e
      · rename_i j dss0 dss h1 h2
        split at e
        · rename_i k0 k h3 h4
          split at e
          · rename_i ds0 ds h5 h6
            split at e
            · rename_i hz
              obtain ⟨hk, hz⟩ := hz
              subst hk
              cases e
              have h0 : en[i]? = some (.m2 dss0) := by rw [← hjp _ _ _ e1]; exact h1
              obtain ⟨a, rs, a1, a2, a3, a4⟩ := o.m2 h0
              refine ⟨.ref a, a2, ?_⟩
              refine hj w en σ H _ _ o e1 _ fun vj H1 f1 o1 r1 => ?_
              have r1 : vj = .int j := r1
              subst r1
              obtain ⟨a', rs', b1, b2, b3, b4⟩ := o1.m2 h1
              rw [a2] at b2
              cases b2
              rw [a1] at b1
              cases b1
              obtain ⟨r, us, g1, g2, g3⟩ := b4.get h5
              have hat : atI (rs.map V.ref) j = some (.ref r) := by
                unfold atI
                rw [List.length_map, b4.len, h3]
                show (rs.map V.ref)[k0]? = _
                rw [List.getElem?_map, g1]
                rfl
              refine .inl ⟨a, _, j, .ref r, rfl, rfl, .inl (.inl b3), hat, .inl ⟨rfl, us, .inl (.inl g2)⟩, ?_⟩
              refine h w ej σ H1 _ _ o1 e2 _ fun v H2 f2 o2 r2 => ?_
              obtain ⟨a', rs', c1, c2, c3, c4⟩ := o2.m2 h2
              rw [a2] at c2
              cases c2
              rw [a1] at c1
              cases c1
              obtain ⟨r', us', k1, k2, k3⟩ := c4.get h6
              rw [g1] at k1
              cases k1
              have rm : r ∈ a :: rs := List.mem_cons_of_mem _ (List.mem_of_getElem? g1)
              refine ⟨r, us', v, rfl, rfl, k2, Nat.lt_of_lt_of_le (by rw [k3.length]; exact hz) (by decide : 100000 ≤ sizeLine), ?_⟩
              have nd := o2.nd i _ a1
              have fu : Fr w.M H2 (upd H2 r (.lst (us' ++ [v]))) := fr_upd (Wd.M_of a1 rm)
              refine q _ _ ((f1.trans f2).trans fu) (o2.upd a1 rm k2 a2 ⟨a, rs, rfl, rfl, ?_, ?_⟩) rfl
              · rw [upd_ne (fun z => (List.nodup_cons.mp nd).1 (by rw [z]; exact List.mem_of_getElem? g1))]
                exact c3
              · exact Rows.set fu (fun b u eb nb => by rw [upd_ne nb]; exact eb) upd_same (Reps.fr fu _ _ (k3.append (.cons r2 .nil))) k0 (List.nodup_cons.mp nd).2 g1 c4
            · cases e
          · cases e
        · cases e
      · cases e
omit [TabOf] in
/-- x.extend(e) -/
def fExt (i : Nat) (Fe : FE) : FE := fun en => (muAt en i).bind fun _ => (Fe en).bind fun p => (muAt p.2 i).bind fun ds => match p.1 with
  | .list es => if ds.length + es.length ≤ 100000 then some (.none, p.2.set i (.mu (ds ++ es))) else none
  | _ => none
theorem ev_ext (h : Ev te Fe) : Ev (tBM K "list" rExtend (tVar i) (tCons te tNil)) (fExt i Fe) := fun w en σ H d en' o e Q q => by
  unfold fExt at e
  cases e0 : muAt en i with
  | none => rw [e0] at e; cases e
  | some ds0 =>
    rw [e0] at e
    simp only [Option.bind_some] at e
    cases e1 : Fe en with
    | none => rw [e1] at e; cases e
    | some p =>
      rw [e1] at e
      obtain ⟨dv, ev⟩ := p
      simp only [Option.bind_some] at e
      cases e2 : muAt ev i with
      | none => rw [e2] at e; cases e
      | some ds =>
        rw [e2] at e
        simp only [Option.bind_some] at e
        cases dv with
        | list es =>
          by_cases hz : ds.length + es.length ≤ 100000
          · simp only [if_pos hz] at e
            cases e
            obtain ⟨a, vs, a1, a2, a3, a4⟩ := o.mu (muAt_eq e0)
            refine ⟨.ref a, a2, .inl ⟨rfl, vs, .inl (.inl a3)⟩, ?_⟩
            refine h w en σ H _ _ o e1 _ fun v H1 f1 o1 r1 => ?_
            obtain ⟨b, us, us', b1, b2, b3, b4, b5, b6⟩ := slot_inj o o1 (muAt_eq e0) (muAt_eq e2)
            rw [a2] at b2
            cases b2
            obtain ⟨c, zs, rfl, nc, hc, kc⟩ := r1
            refine ⟨a, c, us', zs, rfl, rfl, b5, hc, big (by rw [b6.length, kc.length]; exact hz), ?_⟩
            exact q _ _ (f1.trans (fr_upd (Wd.M_of a1 List.mem_cons_self))) (o1.updMu a1 a2 b5 (b6.append kc)) rfl
          · simp only [if_neg hz] at e
            cases e
        | _ => cases e
omit [TabOf] in
/-- x.pop(e) -/
def fPopAt (i : Nat) (Fe : FE) : FE := fun en => (muAt en i).bind fun _ => (Fe en).bind fun p => (muAt p.2 i).bind fun ds => match p.1 with
  | .int j => (ixN ds.length j).bind fun k => (ds[k]?).bind fun d => if ds.length ≤ 100000 then some (d, p.2.set i (.mu (ds.eraseIdx k))) else none
  | _ => none
theorem ev_popAt (h : Ev te Fe) : Ev (tBM K "list" rPopAt (tVar i) (tCons te tNil)) (fPopAt i Fe) := fun w en σ H d en' o e Q q => by
  unfold fPopAt at e
  cases e0 : muAt en i with
  | none => rw [e0] at e; cases e
  | some ds0 =>
    rw [e0] at e
    simp only [Option.bind_some] at e
    cases e1 : Fe en with
    | none => rw [e1] at e; cases e
    | some p =>
      rw [e1] at e
      obtain ⟨dv, ev⟩ := p
      simp only [Option.bind_some] at e
      cases e2 : muAt ev i with
      | none => rw [e2] at e; cases e
      | some ds =>
        rw [e2] at e
        simp only [Option.bind_some] at e
        cases dv with
        | int j =>
          simp only at e
          cases e3 : ixN ds.length j with
          | none => rw [e3] at e; cases e
          | some k =>
            rw [e3] at e
            simp only [Option.bind_some] at e
            cases e4 : ds[k]? with
            | none => rw [e4] at e; cases e
            | some dk =>
              rw [e4] at e
              simp only [Option.bind_some] at e
              split at e
              · rename_i hz
                cases e
                obtain ⟨a, vs, a1, a2, a3, a4⟩ := o.mu (muAt_eq e0)
                refine ⟨.ref a, a2, .inl ⟨rfl, vs, .inl (.inl a3)⟩, ?_⟩
                refine h w en σ H _ _ o e1 _ fun v H1 f1 o1 r1 => ?_
                have r1 : v = .int j := r1
                subst r1
                obtain ⟨b, us, us', b1, b2, b3, b4, b5, b6⟩ := slot_inj o o1 (muAt_eq e0) (muAt_eq e2)
                rw [a2] at b2
                cases b2
                obtain ⟨y, hy, ry⟩ := b6.get e4
                obtain ⟨g1, g2, g3, g4⟩ := ixN_seq e3
                have fu : Fr w.M H1 (upd H1 a (.lst (us'.eraseIdx k))) := fr_upd (Wd.M_of a1 List.mem_cons_self)
                refine ⟨a, us', j, k, y, rfl, rfl, b5, by omega, by omega, by rw [b6.length]; exact g1, hy, ?_⟩
                exact q _ _ (f1.trans fu) (o1.updMu a1 a2 b5 (b6.eraseIdx k)) (Rep.fr fu _ _ ry)
              · cases e
        | _ => cases e
omit [TabOf] in
/-- x[j] = e -/
def sSetI (i : Nat) (Fe Fj : FE) : FS := fun en => (Fe en).bind fun p => (Fj p.2).bind fun pj => match pj.1 with
  | .int j => (muAt p.2 i).bind fun _ => (muAt pj.2 i).bind fun ds => (ixN ds.length j).map fun k => .nx (pj.2.set i (.mu (ds.set k p.1)))
  | _ => none
theorem s_setI {tj : TE} {Fj : FE} (h : Ev te Fe) (hj : Ev tj Fj) : EvS pb C E (tAsg te (gSub (tVar i) tj rSetL)) (sSetI i Fe Fj) := fun w en σ H out o hh D hpb e Dn p => by
  unfold sSetI at e
  cases e1 : Fe en with
  | none => rw [e1] at e; cases e
  | some pe =>
    rw [e1] at e
    obtain ⟨dv, ev⟩ := pe
    simp only [Option.bind_some] at e
    cases e2 : Fj ev with
    | none => rw [e2] at e; cases e
    | some pj =>
      rw [e2] at e
      obtain ⟨dj, ej⟩ := pj
      simp only [Option.bind_some] at e
      cases dj with
      | int j =>
        simp only at e
        cases e0 : muAt ev i with
        | none => rw [e0] at e; cases e
        | some ds0 =>
          rw [e0] at e
          simp only [Option.bind_some] at e
          cases e3 : muAt ej i with
          | none => rw [e3] at e; cases e
          | some ds =>
            rw [e3] at e
            simp only [Option.bind_some] at e
            cases e4 : ixN ds.length j with
            | none => rw [e4] at e; cases e
            | some k =>
              rw [e4] at e
              cases e
              refine h w en σ H _ _ o e1 _ fun v H1 f1 o1 r1 => ?_
              obtain ⟨a, vs, a1, a2, a3, a4⟩ := o1.mu (muAt_eq e0)
              refine ⟨.ref a, a2, ?_⟩
              refine hj w ev σ H1 _ _ o1 e2 _ fun vj H2 f2 o2 r2 => ?_
              have r2 : vj = .int j := r2
              subst r2
              obtain ⟨b, us, us', b1, b2, b3, b4, b5, b6⟩ := slot_inj o1 o2 (muAt_eq e0) (muAt_eq e3)
              rw [a2] at b2
              cases b2
              refine ⟨a, us', j, k, rfl, rfl, b5, by rw [b6.length]; exact e4, ?_⟩
              exact p w σ _ (.refl w) (o2.updMu a1 a2 b5 (Reps.set (Rep.fr f2 _ _ r1) k b6))
      | _ => cases e
omit [TabOf] in
/-- a list that is changed no more -/
def sFreeze (i : Nat) (F : FS) : FS := fun en => match en[i]? with
  | some (.mu ds) => F (en.set i (.im (.list ds)))
  | some (.m2 dss) => F (en.set i (.im (.list (dss.map PyData.list))))
  | _ => F en
end
end N

set_option Elab.async false
set_option linter.all false
set_option maxRecDepth 100000
set_option maxHeartbeats 4000000
/-! N8: tests, loops, returns; lists that are changed no more; new lists; lists of new lists. -/
namespace N
open PySem PySem.Spec PyProof.Rows L2
variable [TabOf]
section
variable {w : Wd} {en : En} {σ : L2.St} {H : Hp}
theorem Wd.own_at {i j : Nat} {l : List Addr} {l0 : List Addr} (hi : w.as[i]? = some l) (e : (w.own i []).as[j]? = some l0) : (j = i ∧ l0 = []) ∨ (j ≠ i ∧ w.as[j]? = some l0) := by
  by_cases h : i = j
  · subst h
    have e : (w.as.set i [])[i]? = some l0 := e
    rw [List.getElem?_set_self (get_lt hi)] at e
    cases e
    exact .inl ⟨rfl, rfl⟩
  · have e : (w.as.set i [])[j]? = some l0 := e
    rw [List.getElem?_set_ne h] at e
    exact .inr ⟨fun z => h z.symm, e⟩
theorem Ok.notM (o : Ok w en σ H) (hh : w.held = []) (D : Dom w.Mc w.H0) (hp : w.P0 = []) {i : Nat} {l : List Addr} (hi : w.as[i]? = some l) : ∀ a ∈ l, ¬ (w.own i []).M a := fun a ha z => by
  rcases z with z | ⟨j, l0, e, m⟩ | ⟨q, hq, _⟩
  · obtain ⟨vs, e⟩ := D a z
    rcases o.fresh a ⟨i, l, hi, ha⟩ with f | f
    · rw [hp] at f
      cases f
    · obtain ⟨ps, e2⟩ := f _ e
      cases e2
  · rcases Wd.own_at hi e with ⟨_, rfl⟩ | ⟨n, e⟩
    · cases m
    · exact n (o.dj j i l0 l a e hi m ha)
  · have hq : q ∈ w.held := hq
    rw [hh] at hq
    cases hq
theorem Ok.freeze (o : Ok w en σ H) {i : Nat} {l : List Addr} (hi : w.as[i]? = some l) {d : PyData} {v : V} (hx : σ[i]? = some (some v)) (r : Rep (w.own i []).M H d v) : Ok (w.own i []) (en.set i (.im d)) σ H := by
  have hie : i < en.length := by rw [← o.la]; exact get_lt hi
  have mm : ∀ a, (w.own i []).M a → w.M a := fun a z => by
    rcases z with z | ⟨j, l0, e, m⟩ | z
    · exact .inl z
    · rcases Wd.own_at hi e with ⟨_, rfl⟩ | ⟨n, e⟩
      · cases m
      · exact .inr (.inl ⟨j, l0, e, m⟩)
    · exact .inr (.inr z)
  have ml : ∀ a, (w.own i []).L a → w.L a := fun a ⟨j, l0, e, m⟩ => by
    rcases Wd.own_at hi e with ⟨_, rfl⟩ | ⟨n, e⟩
    · cases m
    · exact ⟨j, l0, e, m⟩
  refine ⟨by rw [List.length_set]; show (w.as.set i []).length = _; rw [List.length_set]; exact o.la, by rw [List.length_set]; exact o.ls, fun j s e => ?_, fun j k l1 l2 a e1 e2 m1 m2 => ?_, fun j l1 e => ?_, fun a h => o.fresh a (ml a h), fun a h => o.dom a (mm a h), o.fr, o.tabs, o.held, fun q hq h => o.hd q hq (ml _ h), o.hf, o.p0, fun q hq => Rep.weak mm _ _ (o.keep q hq)⟩
  · by_cases h : i = j
    · subst h
      rw [List.getElem?_set_self hie] at e
      cases e
      exact ⟨[], _, by show (w.as.set i [])[i]? = _; rw [List.getElem?_set_self (get_lt hi)], hx, rfl, v, rfl, r⟩
    · rw [List.getElem?_set_ne h] at e
      obtain ⟨a, x, e1, e2, e3⟩ := o.slot j s e
      exact ⟨a, x, by show (w.as.set i [])[j]? = _; rw [List.getElem?_set_ne h]; exact e1, e2, SlOk.more (fun a z => .inl (mm a z)) e3⟩
  · rcases Wd.own_at hi e1 with ⟨_, rfl⟩ | ⟨_, e1⟩
    · cases m1
    · rcases Wd.own_at hi e2 with ⟨_, rfl⟩ | ⟨_, e2⟩
      · cases m2
      · exact o.dj j k l1 l2 a e1 e2 m1 m2
  · rcases Wd.own_at hi e with ⟨_, rfl⟩ | ⟨_, e⟩
    · exact List.nodup_nil
    · exact o.nd j l1 e
theorem rows_reps {M M' : Addr → Prop} (mm : ∀ a, M' a → M a) : ∀ {dss : List (List PyData)} {rs : List Addr}, (∀ a ∈ rs, ¬ M' a) → Rows M H dss rs → Reps M' H (dss.map PyData.list) (rs.map V.ref)
  | [], _, _, h => by cases (show _ = _ from h); rfl
  | ds :: dss, _, n, h => by
    obtain ⟨r, rr, vs, rfl, z1, z2, z3⟩ := h
    exact .cons ⟨r, vs, rfl, n r List.mem_cons_self, z1, Reps.weak mm _ _ z2⟩ (rows_reps mm (fun a ha => n a (List.mem_cons_of_mem _ ha)) z3)
end
section
variable {pb : Bool} {C : Addr} {E : XK} {t u : TS} {F F1 F2 : FS} {te ta tb : TE} {Fe Fa Fb : FE} {tt : TT} {A : FB} {K : PySem.W.Frag} {i : Nat}
theorem s_freeze (h : EvS true C E t F) : EvS true C E t (sFreeze i F) := fun w en σ H out o hh D hpb e Dn p => by
  unfold sFreeze at e
  have own : Ext w (w.own i []) := ⟨rfl, rfl, rfl, rfl, rfl, rfl, own0 (pb := true) (.inr rfl) hpb⟩
  have mm : ∀ {l : List Addr}, w.as[i]? = some l → ∀ a, (w.own i []).M a → w.M a := fun hi a z => by
    rcases z with z | ⟨j, l0, e, m⟩ | z
    · exact .inl z
    · rcases Wd.own_at hi e with ⟨_, rfl⟩ | ⟨n, e⟩
      · cases m
      · exact .inr (.inl ⟨j, l0, e, m⟩)
    · exact .inr (.inr z)
  split at e
  · rename_i ds e0
    obtain ⟨a, vs, a1, a2, a3, a4⟩ := o.mu e0
    have o' := o.freeze a1 a2 (d := .list ds) ⟨a, vs, rfl, o.notM hh D (hpb rfl) a1 a List.mem_cons_self, a3, Reps.weak (mm a1) _ _ a4⟩
    exact h (w.own i []) _ σ H out o' hh D hpb e Dn (p.ext own)
  · rename_i dss e0
    obtain ⟨a, rs, a1, a2, a3, a4⟩ := o.m2 e0
    have nm := o.notM hh D (hpb rfl) a1
    have o' := o.freeze a1 a2 (d := .list (dss.map PyData.list)) ⟨a, _, rfl, nm a List.mem_cons_self, a3, rows_reps (mm a1) (fun b hb => nm b (List.mem_cons_of_mem _ hb)) a4⟩
    exact h (w.own i []) _ σ H out o' hh D hpb e Dn (p.ext own)
  · exact h w en σ H out o hh D hpb e Dn p
omit [TabOf] in
def sIf (A : FB) (F1 F2 : FS) : FS := fun en => (A en).bind fun p => if p.1 = true then F1 p.2 else F2 p.2
theorem s_if (hc : EvB tt A) (h1 : EvS pb C E t F1) (h2 : EvS pb C E u F2) : EvS pb C E (tIfS tt t u) (sIf A F1 F2) := fun w en σ H out o hh D hpb e Dn p => by
  unfold sIf at e
  cases e1 : A en with
  | none => rw [e1] at e; cases e
  | some q =>
    rw [e1] at e
    simp only [Option.bind_some] at e
    refine hc w en σ H q.1 q.2 o e1 _ fun H1 f1 o1 => ?_
    split at e
    · rename_i hb
      rw [if_pos hb]
      exact h1 w _ σ H1 out o1 hh D hpb e Dn p
    · rename_i hb
      rw [if_neg hb]
      exact h2 w _ σ H1 out o1 hh D hpb e Dn p
omit [TabOf] in
def sRet (Fe : FE) : FS := fun en => (Fe en).map fun p => .rt p.1 p.2
theorem s_ret (h : Ev te Fe) : EvS pb C E (tRet te) (sRet Fe) := fun w en σ H out o hh D hpb e Dn p => by
  unfold sRet at e
  cases e1 : Fe en with
  | none => rw [e1] at e; cases e
  | some q =>
    rw [e1] at e
    cases e
    exact h w en σ H q.1 q.2 o e1 _ fun v H1 f1 o1 r1 => p w v σ H1 (.refl w) o1 (Rep.weak (fun a z => .inl z) _ _ r1)
omit [TabOf] in
def sRetN : FS := fun en => some (.rt .none en)
theorem s_retN : EvS pb C E tRetN sRetN := fun w en σ H out o hh D hpb e Dn p => by
  cases e
  exact p w .non σ H (.refl w) o rfl
omit [TabOf] in
def sBrk : FS := fun en => some (.bk en)
theorem s_brk : EvS pb C E tBreak sBrk := fun w en σ H out o hh D hpb e Dn p => by
  cases e
  exact p w σ H (.refl w) o
omit [TabOf] in
def sCnt : FS := fun en => some (.ct en)
theorem s_cnt : EvS pb C E tCont sCnt := fun w en σ H out o hh D hpb e Dn p => by
  cases e
  exact p w σ H (.refl w) o
omit [TabOf] in
/-- name op= e -/
def sAug (i : Nat) (g : PyData → PyData → Option PyData) (Fe : FE) : FS := fun en => match en[i]? with
  | some (.im d) => (Fe en).bind fun p => if isPlain p.2[i]? = true then (g d p.1).map fun z => .nx (p.2.set i (.im z)) else none
  | _ => none
theorem s_aug {r : TIp} {g : PyData → PyData → Option PyData} (h : Ev te Fe) (hr : RD2 r g) : EvS pb C E (tAug i te r) (sAug i g Fe) := fun w en σ H out o hh D hpb e Dn p => by
  unfold sAug at e
  split at e
  · rename_i d e0
    obtain ⟨v, e2, rv⟩ := o.at e0
    cases e1 : Fe en with
    | none => rw [e1] at e; cases e
    | some q =>
      rw [e1] at e
      simp only [Option.bind_some] at e
      split at e
      · rename_i hpl
        cases e3 : g d q.1 with
        | none => rw [e3] at e; cases e
        | some z =>
          rw [e3] at e
          cases e
          refine ⟨v, e2, h w en σ H q.1 q.2 o e1 _ fun y H1 f1 o1 r1 => ?_⟩
          refine hr w.M H1 v y d q.1 z o1.dom (Rep.fr f1 _ _ rv) r1.t e3 _ fun u H2 s2 r2 => ?_
          exact p w _ H2 (.refl w) ((o1.same s2).set (o1.plain hpl) r2)
      · cases e
  · cases e
/-! ### for -/
omit [TabOf] in
def forGo (tg : FG) (F : FS) : List PyData → En → Option Out
  | [], e => some (.nx e)
  | d :: ds, e => (tg d e).bind fun e1 => (F e1).bind fun o => match o with
    | .nx e2 => forGo tg F ds e2
    | .ct e2 => forGo tg F ds e2
    | .bk e2 => some (.nx e2)
    | o => some o
omit [TabOf] in
def sFor (I : FA) (tg : FG) (F : FS) : FS := fun en => (I en).bind fun p => forGo tg F p.1 p.2
def Wd.kpTo (w : Wd) (l : List (PyData × V)) : Wd := { w with keep := l }
theorem Ok.kpTo {w : Wd} {en : En} {σ : L2.St} {H : Hp} (o : Ok w en σ H) {l : List (PyData × V)} (h : ∀ p ∈ l, p ∈ w.keep) : Ok (w.kpTo l) en σ H :=
  ⟨o.la, o.ls, o.slot, o.dj, o.nd, o.fresh, o.dom, o.fr, o.tabs, o.held, o.hd, o.hf, o.p0, fun p hp => o.keep p (h p hp)⟩
theorem Ext.unkp {w w' : Wd} {d : PyData} {v : V} (x : Ext (w.kp d v) w') : Ext w (w'.kpTo w.keep) := ⟨x.mc, x.p0, x.h0, x.t, x.held, rfl, x.as0⟩
theorem Post.kp {w : Wd} {Dn : Ends} {out : Out} (p : Post C E w Dn out) (d : PyData) (v : V) : Post C E (w.kp d v) Dn out := by
  have k : ∀ {w' : Wd}, Ext (w.kp d v) w' → ∀ p ∈ w.keep, p ∈ w'.keep := fun {w'} x p hp => by
    rw [x.keep]
    exact List.mem_cons_of_mem _ hp
  cases out with
  | nx e => exact fun w' σ' H' x o => p _ σ' H' x.unkp (o.kpTo (k x))
  | bk e => exact fun w' σ' H' x o => p _ σ' H' x.unkp (o.kpTo (k x))
  | ct e => exact fun w' σ' H' x o => p _ σ' H' x.unkp (o.kpTo (k x))
  | rt d2 e => exact fun w' v σ' H' x o r => p _ v σ' H' x.unkp (o.kpTo (k x)) r
  | ex d2 e => exact fun w' σ' H' dd x o r => p _ σ' H' dd x.unkp (o.kpTo (k x)) r
theorem s_for {wi : TI} {g : TG} {ts : List Nat} {I : FA} {tg : FG} (hI : EvI wi I) (hG : EvG g tg ts) (hb : EvS pb C E t F) : EvS pb C E (tFor wi g t) (sFor I tg F) := fun w en σ H out o hh D hpb e Dn p => by
  unfold sFor at e
  cases e1 : I en with
  | none => rw [e1] at e; cases e
  | some q =>
    rw [e1] at e
    obtain ⟨ds, e0⟩ := q
    simp only [Option.bind_some] at e
    refine hI w en σ H ds e0 o e1 _ fun J sd sv H1 f1 o1 rs hs hz => ?_
    have p' := p.kp sd sv
    refine ⟨fun i m σ' H' => i + m = ds.length ∧ ∃ w' eni, Ext (w.kp sd sv) w' ∧ Ok w' eni σ' H' ∧ forGo tg F (ds.drop i) eni = some out, ⟨ds.length, by omega, w.kp sd sv, e0, .refl _, o1.kp rs, by rw [List.drop_zero]; exact e⟩, ?_⟩
    rintro i m σ' H' ⟨him, w', eni, x, oi, hgo⟩
    have rsi : Rep w'.M H' sd sv := oi.keep (sd, sv) (by rw [x.keep]; exact List.mem_cons_self)
    obtain ⟨sg, ss⟩ := hs w'.M H' rsi
    by_cases hi : i < ds.length
    · obtain ⟨dd, hdd⟩ : ∃ dd, ds[i]? = some dd := ⟨ds[i], List.getElem?_eq_getElem hi⟩
      obtain ⟨go, yl⟩ := sg i dd hdd
      have hdrop : ds.drop i = dd :: ds.drop (i + 1) := by
        rw [List.drop_eq_getElem_cons hi]
        rw [List.getElem?_eq_getElem hi] at hdd
        cases hdd
        rfl
      rw [hdrop] at hgo
      have hgo : (tg dd eni).bind (fun e1 => (F e1).bind fun o => match o with
        | .nx e2 => forGo tg F (ds.drop (i + 1)) e2
        | .ct e2 => forGo tg F (ds.drop (i + 1)) e2
        | .bk e2 => some (.nx e2)
        | o => some o) = some out := hgo
      cases k1 : tg dd eni with
      | none => rw [k1] at hgo; cases hgo
      | some ea =>
        rw [k1] at hgo
        simp only [Option.bind_some] at hgo
        cases k2 : F ea with
        | none => rw [k2] at hgo; cases hgo
        | some o2 =>
          rw [k2] at hgo
          simp only [Option.bind_some] at hgo
          refine .inr ⟨go, fun σ' H' => ∃ m', m' < m ∧ (i + 1 + m' = ds.length ∧ ∃ w' eni, Ext (w.kp sd sv) w' ∧ Ok w' eni σ' H' ∧ forGo tg F (ds.drop (i + 1)) eni = some out), fun σ' H' h => h, fun y H2 hy => ?_⟩
          obtain ⟨eH, rx⟩ := yl y H2 hy
          subst eH
          refine hG w' eni σ' H2 dd y ea oi rx k1 _ fun σ2 _ oa => ?_
          have hh' : w'.held = [] := x.held.trans hh
          have D' : Dom w'.Mc w'.H0 := by
            rw [x.mc, x.h0]
            exact D
          have pb' : pb = true → w'.P0 = [] := by
            rw [x.p0]
            exact hpb
          refine hb w' ea σ2 H2 o2 oa hh' D' pb' k2 _ ?_
          have nxt : ∀ e2, forGo tg F (ds.drop (i + 1)) e2 = some out → ∀ w2 σ3 H3, Ext w' w2 → Ok w2 e2 σ3 H3 → ∃ m', m' < m ∧ (i + 1 + m' = ds.length ∧ ∃ w' eni, Ext (w.kp sd sv) w' ∧ Ok w' eni σ3 H3 ∧ forGo tg F (ds.drop (i + 1)) eni = some out) := fun e2 h2 w2 σ3 H3 x3 o3 =>
            ⟨m - 1, by omega, by omega, w2, e2, x.trans x3, o3, h2⟩
          have px := p'.ext x
          cases o2 with
          | nx e2 => exact nxt e2 hgo
          | ct e2 => exact nxt e2 hgo
          | bk e2 => cases hgo; exact px
          | rt d2 e2 => cases hgo; exact px
          | ex d2 e2 => cases hgo; exact px
    · refine .inl ⟨ss i (by omega), ?_⟩
      rw [List.drop_of_length_le (by omega)] at hgo
      cases hgo
      exact p' w' σ' H' x oi
/-! ### new lists -/
theorem ef_lst {tl : TA} {L : FA} {n : Nat} (h : EvA tl L) (hl : LenA L n) (hn : n ≤ 1000 := by decide) : EvF (tLst tl) (fLst L) := fun w en σ H d en' o e => by
  unfold fLst at e
  cases e1 : L en with
  | none => rw [e1] at e; cases e
  | some p =>
    rw [e1] at e
    cases e
    refine ⟨_, rfl, fun Q q => ?_⟩
    refine h w en σ H p.1 p.2 o e1 _ fun vs H1 f1 o1 r1 => ?_
    refine ⟨Nat.le_of_lt (small1000 (by rw [r1.length, hl _ _ _ e1]; exact hn)), fun a ha => ?_⟩
    have s2 : Same H1 (upd H1 a (.lst vs)) := same_upd ha
    refine q a vs _ (o1.dom.free ha) (f1.trans (Fr.of s2)) (o1.lay ha vs) ?_
    exact Reps.fr (Fr.of s2) _ _ (Reps.more (fun b hb => (Wd.hold_M.mp hb).imp id fun z => by rw [z]; exact ha) _ _ r1)
theorem ef_lrg (h : Ev te Fe) : EvF (tLstRg (tRg1 te)) (fUn gLRg Fe) := fun w en σ H d en' o e => by
  unfold fUn at e
  cases e1 : Fe en with
  | none => rw [e1] at e; cases e
  | some p =>
    rw [e1] at e
    obtain ⟨z, e2⟩ := p
    simp only [Option.bind_some] at e
    cases z with
    | int n =>
      unfold gLRg at e
      by_cases hn : -100000 ≤ n ∧ n ≤ 100000
      · simp only [if_pos hn] at e
        cases e
        refine ⟨_, rfl, fun Q q => ?_⟩
        refine h w en σ H _ _ o e1 _ fun x H1 f1 o1 r1 => ?_
        refine ⟨n, r1, ?_, fun b hb => ?_⟩
        · exact ⟨by omega, by omega, by omega, by omega, by omega⟩
        · have s2 : Same H1 (upd H1 b (.lst (rgV 0 n))) := same_upd hb
          exact q b _ _ (o1.dom.free hb) (f1.trans (Fr.of s2)) (o1.lay hb _) (reps_range n)
      · simp only [if_neg hn] at e
        cases e
    | _ => cases e
omit [TabOf] in
/-- i, j = a, [..]: the second a list that this def changes -/
def sParF (i j : Nat) (Fa Fb : FE) : FS := fun en => (Fa en).bind fun p => (Fb p.2).bind fun q => match q.1 with
  | .list ds => if isPlain q.2[i]? = true ∧ j < q.2.length ∧ i ≠ j then some (.nx ((q.2.set i (.im p.1)).set j (.mu ds))) else none
  | _ => none
theorem s_parF {j : Nat} (ha : Ev ta Fa) (hb : EvF tb Fb) (hj0 : j ≠ 0 ∨ pb = true := by first | exact .inr rfl | exact .inl (by decide)) : EvS pb C E (tPar i j (tCons ta (tCons tb tNil))) (sParF i j Fa Fb) := fun w en σ H out o hh D hpb e Dn p => by
  unfold sParF at e
  cases e1 : Fa en with
  | none => rw [e1] at e; cases e
  | some q =>
    rw [e1] at e
    obtain ⟨d, ea⟩ := q
    simp only [Option.bind_some] at e
    cases e2 : Fb ea with
    | none => rw [e2] at e; cases e
    | some q2 =>
      rw [e2] at e
      obtain ⟨d2, eb⟩ := q2
      simp only [Option.bind_some] at e
      refine ha w en σ H d ea o e1 _ fun v H1 f1 o1 r1 => ?_
      obtain ⟨ds, rfl, k⟩ := hb (w.kp d v) ea σ H1 d2 eb (o1.kp r1) e2
      simp only at e
      split at e
      · rename_i hp
        cases e
        refine k _ fun a vs H2 na f2 o2 r2 => ?_
        refine ⟨v, .ref a, rfl, ?_⟩
        have rv : Rep ((w.kp d v).hold a vs).M H2 d v := o2.keep (d, v) List.mem_cons_self
        have o3 := o2.set (o2.plain hp.1) rv
        have o4 : Ok (((w.kp d v).own j [a])) ((eb.set i (.im d)).set j (.mu ds)) ((σ.set i (some v)).set j (some (.ref a))) H2 := o3.letMu hh r2 (by rw [List.length_set]; exact hp.2.1)
        exact p (w.own j [a]) _ H2 ⟨rfl, rfl, rfl, rfl, rfl, rfl, own0 hj0 hpb⟩ (Ok.unkp (w := w.own j [a]) o4).1
      · cases e
end
end N

set_option Elab.async false
set_option linter.all false
set_option maxRecDepth 100000
set_option maxHeartbeats 4000000
/-! N9: a list of new lists. -/
namespace N
open PySem PySem.Spec PyProof.Rows L2
variable [TabOf]
def Wd.hs (w : Wd) (hl : List (Addr × List V)) : Wd := { w with held := hl }
theorem Wd.hs_M {w : Wd} {hl hl' : List (Addr × List V)} (h : ∀ p ∈ hl', p ∈ hl) {a : Addr} (m : (w.hs hl').M a) : (w.hs hl).M a := by
  rcases m with m | m | ⟨q, hq, e⟩
  · exact .inl m
  · exact .inr (.inl m)
  · exact .inr (.inr ⟨q, h q hq, e⟩)
theorem Ok.heldEq {w : Wd} {en : En} {σ : L2.St} {H : Hp} {hl hl' : List (Addr × List V)} (o : Ok (w.hs hl) en σ H) (h1 : ∀ p ∈ hl', p ∈ hl) : Ok (w.hs hl') en σ H := by
  have mm : ∀ a, (w.hs hl').M a → (w.hs hl).M a := fun a z => Wd.hs_M h1 z
  refine ⟨o.la, o.ls, fun i s e => ?_, o.dj, o.nd, o.fresh, fun a z => o.dom a (mm a z), o.fr, o.tabs, fun p hp => o.held p (h1 p hp), fun p hp => o.hd p (h1 p hp), fun p hp => o.hf p (h1 p hp), o.p0, fun p hp => Rep.weak mm _ _ (o.keep p hp)⟩
  obtain ⟨a, x, e1, e2, e3⟩ := o.slot i s e
  exact ⟨a, x, e1, e2, SlOk.more (fun a z => .inl (mm a z)) e3⟩
/-- lists that are being made go to a name -/
theorem Ok.letAll {w : Wd} {en : En} {σ : L2.St} {H : Hp} {hl : List (Addr × List V)} {l : List Addr} {p : Addr} {s : Sl} {i : Nat} (o : Ok (w.hs hl) en σ H) (hll : ∀ a ∈ l, ∃ q ∈ hl, q.1 = a) (nd : l.Nodup) (hi : i < en.length)
    (hs : SlOk (w.hs hl).M H l s (some (.ref p))) : Ok ((w.hs []).own i l) (en.set i s) (σ.set i (some (.ref p))) H := by
  have hia : i < w.as.length := by
    have z := o.la
    show i < (w.hs hl).as.length
    rw [z]
    exact hi
  have hiσ : i < σ.length := by rw [o.ls]; exact hi
  have nl : ∀ (j : Nat) (l' : List Addr), w.as[j]? = some l' → ∀ a ∈ l, a ∉ l' := fun j l' e a ha m => by
    obtain ⟨q, hq, rfl⟩ := hll a ha
    exact o.hd q hq ⟨j, l', e, m⟩
  have at_ : ∀ (j : Nat) (l' : List Addr), ((w.hs []).own i l).as[j]? = some l' → (j = i ∧ l' = l) ∨ (j ≠ i ∧ w.as[j]? = some l') := fun j l' e => by
    by_cases h : i = j
    · subst h
      have e : (w.as.set i l)[i]? = some l' := e
      rw [List.getElem?_set_self hia] at e
      cases e
      exact .inl ⟨rfl, rfl⟩
    · have e : (w.as.set i l)[j]? = some l' := e
      rw [List.getElem?_set_ne h] at e
      exact .inr ⟨fun z => h z.symm, e⟩
  have ml : ∀ a, ((w.hs []).own i l).L a → w.L a ∨ a ∈ l := fun a ⟨j, l', e, m⟩ => by
    rcases at_ j l' e with ⟨_, rfl⟩ | ⟨_, e⟩
    · exact .inr m
    · exact .inl ⟨j, l', e, m⟩
  have mm : ∀ a, ((w.hs []).own i l).M a → (w.hs hl).M a := fun a h => by
    rcases h with h | h | ⟨q, hq, e⟩
    · exact .inl h
    · rcases ml a h with h | h
      · exact .inr (.inl h)
      · exact .inr (.inr (hll a h))
    · cases hq
  have mo : ∀ a, ((w.hs []).own i l).M a → (w.hs hl).M a ∨ H a = Option.none := fun a h => .inl (mm a h)
  refine ⟨by rw [List.length_set]; show (w.as.set i l).length = _; rw [List.length_set]; exact o.la, by rw [List.length_set, List.length_set]; exact o.ls, fun j s' e => ?_, fun j k l1 l2 a e1 e2 m1 m2 => ?_, fun j l' e => ?_, fun a h => ?_, fun a h => o.dom a (mm a h), o.fr, o.tabs, fun q hq => (by cases hq), fun q hq h => (by cases hq), fun q hq => (by cases hq), o.p0, fun q hq => Rep.weak mm _ _ (o.keep q hq)⟩
  · by_cases h : i = j
    · subst h
      rw [List.getElem?_set_self hi] at e
      cases e
      exact ⟨l, _, by show (w.as.set i l)[i]? = _; rw [List.getElem?_set_self hia], List.getElem?_set_self hiσ, SlOk.more mo hs⟩
    · rw [List.getElem?_set_ne h] at e
      obtain ⟨a, x, e1, e2, e3⟩ := o.slot j s' e
      exact ⟨a, x, by show (w.as.set i l)[j]? = _; rw [List.getElem?_set_ne h]; exact e1, by rw [List.getElem?_set_ne h]; exact e2, SlOk.more mo e3⟩
  · rcases at_ j l1 e1 with ⟨h1, q1⟩ | ⟨h1, q1⟩
    · rcases at_ k l2 e2 with ⟨h2, q2⟩ | ⟨h2, q2⟩
      · rw [h1, h2]
      · exact absurd m2 (nl k l2 q2 a (by rw [← q1]; exact m1))
    · rcases at_ k l2 e2 with ⟨h2, q2⟩ | ⟨h2, q2⟩
      · exact absurd m1 (nl j l1 q1 a (by rw [← q2]; exact m2))
      · exact o.dj j k l1 l2 a q1 q2 m1 m2
  · rcases at_ j l' e with ⟨_, rfl⟩ | ⟨_, e⟩
    · exact nd
    · exact o.nd j l' e
  · rcases ml a h with h | h
    · exact o.fresh a h
    · obtain ⟨q, hq, rfl⟩ := hll a h
      exact .inr (o.hf q hq)
omit [TabOf] in
/-- each new list's items -/
def RowsH (M : Addr → Prop) (H : Hp) : List (List PyData) → List (Addr × List V) → Prop
  | [], l => l = []
  | ds :: dss, l => ∃ q r, l = q :: r ∧ Reps M H ds q.2 ∧ RowsH M H dss r
theorem RowsH.fr {M M' : Addr → Prop} {H H' : Hp} (f : ∀ d v, Reps M H d v → Reps M' H' d v) : ∀ {dss : List (List PyData)} {l : List (Addr × List V)}, RowsH M H dss l → RowsH M' H' dss l
  | [], _, h => h
  | ds :: dss, _, h => by
    obtain ⟨q, r, rfl, h1, h2⟩ := h
    exact ⟨q, r, rfl, f _ _ h1, RowsH.fr f h2⟩
theorem RowsH.snoc {M : Addr → Prop} {H : Hp} {ds : List PyData} {q : Addr × List V} (h' : Reps M H ds q.2) : ∀ {dss : List (List PyData)} {l : List (Addr × List V)}, RowsH M H dss l → RowsH M H (dss ++ [ds]) (l ++ [q])
  | [], _, h => by
    cases (show _ = _ from h)
    exact ⟨q, [], rfl, h', rfl⟩
  | d :: dss, _, h => by
    obtain ⟨q2, r, rfl, h1, h2⟩ := h
    exact ⟨q2, _, rfl, h1, RowsH.snoc h' h2⟩
theorem RowsH.len {M : Addr → Prop} {H : Hp} : ∀ {dss : List (List PyData)} {l : List (Addr × List V)}, RowsH M H dss l → l.length = dss.length
  | [], _, h => by cases (show _ = _ from h); rfl
  | d :: dss, _, h => by
    obtain ⟨q2, r, rfl, h1, h2⟩ := h
    rw [List.length_cons, List.length_cons, RowsH.len h2]
theorem RowsH.rows {M : Addr → Prop} {H : Hp} : ∀ {dss : List (List PyData)} {l : List (Addr × List V)}, (∀ q ∈ l, H q.1 = some (.lst q.2)) → RowsH M H dss l → Rows M H dss (l.map (·.1))
  | [], _, _, h => by cases (show _ = _ from h); rfl
  | d :: dss, _, hh, h => by
    obtain ⟨q2, r, rfl, h1, h2⟩ := h
    exact ⟨q2.1, _, q2.2, rfl, hh q2 List.mem_cons_self, h1, RowsH.rows (fun q hq => hh q (List.mem_cons_of_mem _ hq)) h2⟩
theorem Reps.zip {M : Addr → Prop} {H : Hp} : ∀ {ds : List PyData} {vs : List V}, Reps M H ds vs → ∀ p ∈ ds.zip vs, Rep M H p.1 p.2
  | [], _, _, p, hp => by simp at hp
  | d :: ds, _, h, p, hp => by
    obtain ⟨v, r, rfl, h1, h2⟩ := h
    rw [List.zip_cons_cons] at hp
    rcases List.mem_cons.mp hp with rfl | hp
    · exact h1
    · exact Reps.zip h2 p hp
theorem Reps.unzip {M M' : Addr → Prop} {H H' : Hp} : ∀ {ds : List PyData} {vs : List V}, Reps M H ds vs → (∀ p ∈ ds.zip vs, Rep M' H' p.1 p.2) → Reps M' H' ds vs
  | [], _, h, _ => h
  | d :: ds, _, h, k => by
    obtain ⟨v, r, rfl, h1, h2⟩ := h
    rw [List.zip_cons_cons] at k
    exact .cons (k _ List.mem_cons_self) (Reps.unzip h2 fun p hp => k p (List.mem_cons_of_mem _ hp))
omit [TabOf] in
def zipR : List (List PyData) → List (Addr × List V) → List (PyData × V)
  | ds :: dss, q :: l => ds.zip q.2 ++ zipR dss l
  | _, _ => []
theorem RowsH.zip {M : Addr → Prop} {H : Hp} : ∀ {dss : List (List PyData)} {l : List (Addr × List V)}, RowsH M H dss l → ∀ p ∈ zipR dss l, Rep M H p.1 p.2
  | [], _, _, p, hp => by cases hp
  | d :: dss, _, h, p, hp => by
    obtain ⟨q, r, rfl, h1, h2⟩ := h
    rcases List.mem_append.mp (show p ∈ d.zip q.2 ++ zipR dss r from hp) with hp | hp
    · exact h1.zip p hp
    · exact RowsH.zip h2 p hp
theorem RowsH.unzip {M M' : Addr → Prop} {H H' : Hp} : ∀ {dss : List (List PyData)} {l : List (Addr × List V)}, RowsH M H dss l → (∀ p ∈ zipR dss l, Rep M' H' p.1 p.2) → RowsH M' H' dss l
  | [], _, h, _ => h
  | d :: dss, _, h, k => by
    obtain ⟨q, r, rfl, h1, h2⟩ := h
    exact ⟨q, r, rfl, h1.unzip fun p hp => k p (List.mem_append_left _ hp), RowsH.unzip h2 fun p hp => k p (List.mem_append_right _ hp)⟩
omit [TabOf] in
def m2Go (tg : FG) (fe : FE) (vs : List Nat) : List PyData → En → Option (List (List PyData) × En)
  | [], e => some ([], e)
  | d :: ds, e => (tg d e).bind fun e1 => (fe e1).bind fun y => match y.1 with
    | .list r => (m2Go tg fe vs ds (wipeE y.2 vs)).map fun q => (r :: q.1, q.2)
    | _ => none
omit [TabOf] in
def sM2 (i : Nat) (I : FA) (tg : FG) (fe : FE) (vs : List Nat) : FS := fun en => (I en).bind fun p => if ownOk p.2 vs = true ∧ i < p.2.length then (m2Go tg fe vs p.1 (wipeE p.2 vs)).map fun r => .nx ((restore r.2 p.2 vs).set i (.m2 r.1)) else none
theorem s_m2 {pb : Bool} {C : Addr} {E : XK} {wi : TI} {g : TG} {te : TE} {vs ts : List Nat} {I : FA} {tg : FG} {fe : FE} {i : Nat} (hI : EvI wi I) (hG : EvG g tg ts) (hE : EvF te fe) (hts : ∀ i ∈ ts, i ∈ vs := by decide) (hi0 : i ≠ 0 ∨ pb = true := by first | exact .inr rfl | exact .inl (by decide)) :
    EvS pb C E (tAsg (tLc wi g tYes te vs) (gName i)) (sM2 i I tg fe vs) := fun w en σ H out o hh D0 hpb e Dn pq => by
  unfold sM2 at e
  cases e1 : I en with
  | none => rw [e1] at e; cases e
  | some p =>
    rw [e1] at e
    obtain ⟨ds, e0⟩ := p
    simp only [Option.bind_some] at e
    by_cases hoi : ownOk e0 vs = true ∧ i < e0.length
    · obtain ⟨ho, hie⟩ := hoi
      rw [if_pos ⟨ho, hie⟩] at e
      cases e2 : m2Go tg fe vs ds (wipeE e0 vs) with
      | none => rw [e2] at e; cases e
      | some r =>
        rw [e2] at e
        obtain ⟨res, eF⟩ := r
        cases e
        refine hI w en σ H ds e0 o e1 _ fun J sd sv H1 f1 o1 rs hs hz => ?_
        intro D hD
        let wA : Wd := (w.kps (keepAll e0 σ vs)).kp sd sv
        have oA : Ok wA e0 σ H1 := (o1.kps fun p hp => keepAll_rep o1 hp).kp rs
        have as0 := ownOk_as o1 ho
        have hA : wA.held = [] := hh
        have hA0 : wA.hs [] = wA := by
          show { wA with held := [] } = wA
          rw [← hA]
        refine ⟨fun i m H' => i + m = ds.length ∧ ∃ (eni : En) (od : List (List PyData)) (hl : List (Addr × List V)) (rest : List (List PyData)), Ok (wA.hs ((D, hl.map fun q => V.ref q.1) :: hl)) eni (L2.wipe σ vs) H' ∧ (D :: hl.map (·.1)).Nodup ∧ RowsH (wA.hs ((D, hl.map fun q => V.ref q.1) :: hl)).M H' od hl ∧ od.length = i ∧ m2Go tg fe vs (ds.drop i) eni = some (rest, eF) ∧ od ++ rest = res,
          ⟨ds.length, by omega, wipeE e0 vs, [], [], res, ?_, by simp, rfl, rfl, by rw [List.drop_zero]; exact e2, rfl⟩, ?_⟩
        · have z := (oA.lay hD []).wipe vs as0
          have z2 : wA.hold D [] = wA.hs [(D, [])] := by
            show { wA with held := (D, []) :: wA.held } = { wA with held := [(D, [])] }
            rw [hA]
          rw [z2] at z
          exact z
        · rintro k m H' ⟨him, eni, od, hl, rest, oi, nd, ri, hlen, hgo, hout⟩
          have rsi : Rep (wA.hs ((D, hl.map fun q => V.ref q.1) :: hl)).M H' sd sv := oi.keep (sd, sv) List.mem_cons_self
          obtain ⟨sg, ss⟩ := hs _ H' rsi
          by_cases hi : k < ds.length
          · obtain ⟨dd, hdd⟩ : ∃ dd, ds[k]? = some dd := ⟨ds[k], List.getElem?_eq_getElem hi⟩
            obtain ⟨go, yl⟩ := sg k dd hdd
            have hdrop : ds.drop k = dd :: ds.drop (k + 1) := by
              rw [List.drop_eq_getElem_cons hi]
              rw [List.getElem?_eq_getElem hi] at hdd
              cases hdd
              rfl
            rw [hdrop] at hgo
            have hgo : (tg dd eni).bind (fun e1 => (fe e1).bind fun y => match y.1 with
              | .list r => (m2Go tg fe vs (ds.drop (k + 1)) (wipeE y.2 vs)).map fun q => (r :: q.1, q.2)
              | _ => none) = some (rest, eF) := hgo
            cases k1 : tg dd eni with
            | none => rw [k1] at hgo; cases hgo
            | some ea =>
              rw [k1] at hgo
              simp only [Option.bind_some] at hgo
              cases k3 : fe ea with
              | none => rw [k3] at hgo; cases hgo
              | some qy =>
                rw [k3] at hgo
                obtain ⟨yd, ey⟩ := qy
                simp only [Option.bind_some] at hgo
                refine .inr ⟨go, fun H' => ∃ m', m' < m ∧ (k + 1 + m' = ds.length ∧ ∃ (eni : En) (od : List (List PyData)) (hl : List (Addr × List V)) (rest : List (List PyData)), Ok (wA.hs ((D, hl.map fun q => V.ref q.1) :: hl)) eni (L2.wipe σ vs) H' ∧ (D :: hl.map (·.1)).Nodup ∧ RowsH (wA.hs ((D, hl.map fun q => V.ref q.1) :: hl)).M H' od hl ∧ od.length = k + 1 ∧ m2Go tg fe vs (ds.drop (k + 1)) eni = some (rest, eF) ∧ od ++ rest = res), fun H' h => h, fun x H2 hy => ?_⟩
                obtain ⟨eH, rx⟩ := yl x H2 hy
                subst eH
                refine hG _ eni (L2.wipe σ vs) H2 dd x ea oi rx k1 _ fun σ2 hw o2 => ?_
                have hw2 : L2.wipe σ2 vs = L2.wipe σ vs := by
                  rw [hw vs hts]
                  refine List.ext_getElem? fun j => ?_
                  by_cases hlj : j < σ.length
                  · by_cases hj : j ∈ vs
                    · rw [wipe_in hj (by rw [wipe_length]; exact hlj), wipe_in hj hlj]
                    · rw [wipe_out hj]
                  · rw [List.getElem?_eq_none (by rw [wipe_length, wipe_length]; omega), List.getElem?_eq_none (by rw [wipe_length]; omega)]
                refine ⟨hw2, ?_⟩
                show tYes σ2 H2 _
                unfold tYes
                simp only [if_true]
                have ri2 : RowsH (wA.hs ((D, hl.map fun q => V.ref q.1) :: hl)).M H2 od hl := ri
                obtain ⟨r, rfl, kk⟩ := hE _ ea σ2 H2 yd ey (o2.kps fun p hp => ri2.zip p hp) k3
                simp only at hgo
                cases k4 : m2Go tg fe vs (ds.drop (k + 1)) (wipeE ey vs) with
                | none => rw [k4] at hgo; cases hgo
                | some rr =>
                  rw [k4] at hgo
                  obtain ⟨rest', eF'⟩ := rr
                  cases hgo
                  refine kk _ fun pa us H4 np f4 o4 r4 => ?_
                  have o4 := o4
                  have o4 : Ok (((wA.hs ((D, hl.map fun q => V.ref q.1) :: hl)).hold pa us).kps (zipR od hl)) ey σ2 H4 := o4
                  obtain ⟨o4, kz⟩ := o4.unkps
                  have hHD : H4 D = some (.lst (hl.map fun q => V.ref q.1)) := o4.held (D, _) (List.mem_cons_of_mem _ List.mem_cons_self)
                  have lov : (hl.map fun q => V.ref q.1).length = k := by rw [List.length_map, ri.len, hlen]
                  have npD : pa ≠ D := fun z => np (.inr (.inr ⟨_, List.mem_cons_self, z.symm⟩))
                  have nph : pa ∉ hl.map (·.1) := fun z => by
                    obtain ⟨q, hq, e⟩ := List.mem_map.mp z
                    exact np (.inr (.inr ⟨q, List.mem_cons_of_mem _ hq, e⟩))
                  -- the order of the lists that are being made
                  have o5 : Ok ((wA.hs (hl ++ [(pa, us)])).hold D (hl.map fun q => V.ref q.1)) ey σ2 H4 := by
                    refine Ok.heldEq (w := wA) (hl := (pa, us) :: (D, hl.map fun q : Addr × List V => V.ref q.1) :: hl) o4 fun q hq => ?_
                    rcases List.mem_cons.mp hq with rfl | hq
                    · exact List.mem_cons_of_mem _ List.mem_cons_self
                    · rcases List.mem_append.mp hq with hq | hq
                      · exact List.mem_cons_of_mem _ (List.mem_cons_of_mem _ hq)
                      · rw [List.mem_singleton.mp hq]
                        exact List.mem_cons_self
                  have nh : ∀ q ∈ (wA.hs (hl ++ [(pa, us)])).held, q.1 ≠ D := fun q hq => by
                    rcases List.mem_append.mp hq with hq | hq
                    · exact fun z => (List.nodup_cons.mp nd).1 (by rw [← z]; exact List.mem_map_of_mem hq)
                    · rw [List.mem_singleton.mp hq]
                      exact npD
                  have emap : (hl ++ [(pa, us)]).map (fun q => V.ref q.1) = (hl.map fun q => V.ref q.1) ++ [V.ref pa] := by rw [List.map_append]; rfl
                  have o6 := o5.grow (vs' := (hl.map fun q => V.ref q.1) ++ [V.ref pa]) nh
                  have o7 := o6.wipe vs as0
                  rw [hw2] at o7
                  have mD : (wA.hs ((D, hl.map fun q => V.ref q.1) :: hl)).M D := .inr (.inr ⟨_, List.mem_cons_self, rfl⟩)
                  have em : ∀ (ov : List V) a, (wA.hs ((D, ov) :: (hl ++ [(pa, us)]))).M a → ((wA.hs ((D, hl.map fun q => V.ref q.1) :: hl)).hold pa us).M a := fun ov a z => by
                    rcases z with z | z | ⟨q, hq, e⟩
                    · exact .inl z
                    · exact .inr (.inl z)
                    · rcases List.mem_cons.mp hq with rfl | hq
                      · exact .inr (.inr ⟨_, List.mem_cons_of_mem _ List.mem_cons_self, e⟩)
                      · rcases List.mem_append.mp hq with hq | hq
                        · exact .inr (.inr ⟨q, List.mem_cons_of_mem _ (List.mem_cons_of_mem _ hq), e⟩)
                        · rw [List.mem_singleton.mp hq] at e
                          exact .inr (.inr ⟨_, List.mem_cons_self, e⟩)
                  -- the rows at the new heap
                  have ri4 : RowsH ((wA.hs ((D, hl.map fun q => V.ref q.1) :: hl)).hold pa us).M H4 od hl := by
                    exact ri2.unzip kz
                  refine ⟨hl.map fun q => V.ref q.1, hHD, Nat.lt_of_le_of_lt (Nat.le_of_eq lov) (Nat.lt_of_lt_of_le hi (big hz)), m - 1, by omega, by omega, wipeE ey vs, od ++ [r], hl ++ [(pa, us)], rest', ?_, ?_, ?_, ?_, k4, ?_⟩
                  · rw [emap]
                    exact o7
                  · rw [List.map_append]
                    refine List.nodup_cons.mpr ⟨fun z => ?_, ?_⟩
                    · rcases List.mem_append.mp z with z | z
                      · exact (List.nodup_cons.mp nd).1 z
                      · exact npD (List.mem_singleton.mp z).symm
                    · exact List.nodup_append.mpr ⟨(List.nodup_cons.mp nd).2, by simp, fun a ha b hb z => by
                        have hb : b = pa := List.mem_singleton.mp hb
                        rw [z, hb] at ha
                        exact nph ha⟩
                  · rw [emap]
                    have fD : Fr (wA.hs ((D, hl.map fun q => V.ref q.1) :: hl)).M H4 (upd H4 D (.lst ((hl.map fun q => V.ref q.1) ++ [V.ref pa]))) := fr_upd mD
                    have fD2 : Fr ((wA.hs ((D, hl.map fun q => V.ref q.1) :: hl)).hold pa us).M H4 (upd H4 D (.lst ((hl.map fun q => V.ref q.1) ++ [V.ref pa]))) := fD.weak fun a z => Wd.hold_M.mpr (.inl z)
                    refine RowsH.snoc ?_ ?_
                    · exact Reps.weak (em _) _ _ (Reps.fr fD2 _ _ r4)
                    · exact RowsH.fr (fun d v z => Reps.weak (em _) _ _ (Reps.fr fD2 _ _ z)) ri4
                  · rw [List.length_append, List.length_singleton, hlen]
                  · rw [List.append_assoc]
                    exact hout
          · refine .inl ⟨ss k (by omega), ?_⟩
            rw [List.drop_of_length_le (by omega)] at hgo
            cases hgo
            rw [List.append_nil] at hout
            subst hout
            have oF : Ok ((((w.hs ((D, hl.map fun q => V.ref q.1) :: hl))).kps (keepAll e0 σ vs)).kp sd sv) eF (L2.wipe σ vs) H' := oi
            obtain ⟨oW, kk⟩ := oF.unkp.1.unkps
            have oR := oW.restore o1 rfl ho kk
            have wE : w.hs [] = w := by
              show { w with held := [] } = w
              rw [← hh]
            have oL := oR.letAll (i := i) (l := D :: hl.map (·.1)) (p := D) (s := .m2 od) (fun a ha => ?_) nd ?_ ?_
            · rw [wE] at oL
              exact pq (w.own i (D :: hl.map (·.1))) _ H' ⟨rfl, rfl, rfl, rfl, rfl, rfl, own0 hi0 hpb⟩ oL
            · rcases List.mem_cons.mp ha with rfl | ha
              · exact ⟨_, List.mem_cons_self, rfl⟩
              · obtain ⟨q, hq, e⟩ := List.mem_map.mp ha
                exact ⟨q, List.mem_cons_of_mem _ hq, e⟩
            · rw [← oR.la]
              show i < w.as.length
              rw [o1.la]
              exact hie
            · have rr : Rows (w.hs ((D, hl.map fun q => V.ref q.1) :: hl)).M H' od (hl.map (·.1)) := RowsH.rows (fun q hq => oi.held q (List.mem_cons_of_mem _ hq)) ri
              refine ⟨D, hl.map (·.1), rfl, rfl, ?_, rr⟩
              have z := oi.held (D, _) List.mem_cons_self
              rw [List.map_map]
              exact z
    · rw [if_neg hoi] at e
      cases e
end N

set_option Elab.async false
set_option linter.all false
set_option maxRecDepth 100000
set_option maxHeartbeats 4000000
/-! N10: the law's own error: a class over ValueError whose __init__ says super().__init__('..' + name) and keeps the name. -/
namespace PySem
namespace BadX
open PySem.W PySem.Calls PyProof.Rows PySem.HandSPX
def iA : Arguments := { posonlyargs := [], args := [{ arg := "self", annotation := none, pos := ⟨4, 17, 4, 21⟩ }, { arg := "name", annotation := none, pos := ⟨4, 23, 4, 27⟩ }], vararg := none, kwonlyargs := [], kw_defaults := [], kwarg := none, defaults := [] }
def iB : List Stmt :=
  [.Expr (.Call (.Attribute (.Call (.Name "super" ⟨5, 8, 5, 13⟩) [] [] ⟨5, 8, 5, 15⟩) "__init__" ⟨5, 8, 5, 24⟩) [.BinOp (.Constant (.str "bad argument: ") 0 ⟨5, 25, 5, 41⟩) .Add (.Name "name" ⟨5, 44, 5, 48⟩) ⟨5, 25, 5, 48⟩] [] ⟨5, 8, 5, 49⟩) ⟨5, 8, 5, 49⟩, .Assign [.Attribute (.Name "self" ⟨6, 8, 6, 12⟩) "name" ⟨6, 8, 6, 17⟩] (.Name "name" ⟨6, 20, 6, 24⟩) ⟨6, 8, 6, 24⟩]
def iS : Scope := { kind := .function, names := [(PySem.Str.ofString "self", .local), (PySem.Str.ofString "name", .local), (PySem.Str.ofString "__class__", .free), (PySem.Str.ofString "super", .globalImplicit)], isGenerator := false, isCoroutine := false, more := [] }
/-- what the written part says of BadArgument, at C, and of its __init__, at fI -/
structure Txt (prog : Program) (K : Frag) (mg : Str → Option Value) (C fI : Addr) : Prop where
  gC : mg "BadArgument" = some (.ref C)
  cls : ∃ nm q N bs bm sn sub ab col dd k0 k1 k2 k3 k5, K.lookup C = some (excClassObj nm q C N bs bm true sn sub ab col dd k0 k1 k2 k3 k5 "ValueError.__new__") ∧ refsVE bm = true
  sa : findIn K (.ref C) "__setattr__" = some (some (.builtin "object.__setattr__"))
  ga : findIn K (.ref C) "__getattribute__" = some (some (.builtin "BaseException.__getattribute__"))
  gg : findIn K (.ref C) "__getattr__" = some none
  noN : findIn K (.ref C) "name" = some none
  iC : findIn K (.ref C) "__init__" = some (some (.ref fI))
  tC : typeIn K (.ref fI) = some (.type "function")
  kC : keepIn K (.ref C) = true
  exC : subIn K (.ref C) (.type "BaseException") = some true
  veC : subIn K (.ref C) (.type "ValueError") = some true
  tyC : typeIn K (.ref C) = some (.type "type")
  hdC : hasDictIn K C = true
  te : exmOne K (.ref C) (.ref C) = some true
  mro : mroIn K C (.ref C) = some true
  sup : ks_superIn K C C "__init__" = some (some (.builtin "ValueError.__init__"))
  tp : nsIn K cStatics "thirdparty.any" = some none
  gS : mg "super" = none
  top : (prog.main.scope.names.lookup ("super" : Str)).isSome = false
  fn : ∃ (oc : Value) (od : Option Addr) (doc pm : Value) (an : Option Addr) (cda cc : Addr) (ct : Value) (osl : Array (Option Value)) (ccl : Value) (cdd : Option Addr) (vs : Array Value) (ccs : Array (Option Value)) (file : Str) (tf : Tok) (cl : Value) (cld : Option Addr) (csl : Array (Option Value)),
    K.lookup fI = some ⟨oc, od, .func (ksFn "__init__" "BadArgument.__init__" iA iB iS .none .none doc pm an (.ref cda) ct cc), osl⟩ ∧ codeIn K (.ref cda) "BadArgument.__init__" = true ∧
    K.lookup cda = some ⟨ccl, cdd, .fields vs, ccs⟩ ∧ vs[2]? = some (.str file tf) ∧ ((prog.main.file : Str) == file) = true ∧ K.lookup cc = some ⟨cl, cld, .cell (some (.ref C)), csl⟩
theorem one_size (v : Value) : [v].length ≤ sizeLine := by
  rw [sizeLine_eq]
  exact (by decide : 1 ≤ 16777216)
theorem fundamental {K : Frag} {C : Addr} {cd : ClassData} (h : clsIn K C = some cd) : ∃ o, K.lookup C = some o ∧ o.data = .cls cd := by
  unfold clsIn at h
  split at h
  · rename_i c d cd' sl ho
    cases h
    exact ⟨_, ho, rfl⟩
  · cases h
/-- what __init__ leaves of a fresh exception at x -/
structure InitEnd (h h' : Heap) (x C dx : Addr) (v : Value) : Prop where
  keep : ∀ b o, b ≠ x → h.get? b = some o → h'.get? b = some o
  obj : ∃ t1 : Addr, h'.get? x = some { cls := .ref C, dict := some dx, data := .fields #[.ref t1, .none, .none, .none, .bool false, .none] }
  dbig : h.objs.size ≤ dx
  dne : dx ≠ x
  ns : h'.Ns1 dx (fun y => if y = "name" then some v else none)
/-- a made BadArgument -/
structure OwnMade (h h' : Heap) (e C d : Addr) (v : Value) : Prop where
  keep : ∀ b o, h.get? b = some o → h'.get? b = some o
  new : h.objs.size ≤ e
  obj : ∃ oe vs, h'.get? e = some oe ∧ oe.cls = .ref C ∧ oe.dict = some d ∧ oe.data = .fields vs ∧ vs[1]? = some .none
  dbig : h.objs.size ≤ d
  dne : d ≠ e
  ns : h'.Ns1 d (fun y => if y = "name" then some v else none)
section
variable {prog : Program} {w : World} {A : Around} {E : Value → Shared → Prop} {h : Heap} {g : Array GenState} {d : Drawn} {t : Nat} {os : OsState}
variable {nm q : Str} {C N : Addr} {bs bm : List Value} {hdct : Bool} {sn : List Str} {sub : List Value} {ab : Bool} {col : Option Bool} {dd : Option Addr} {k0 k1 k2 k3 k5 : Option Value}
theorem call_mw {u e t0 : Addr} {rest : List Value} {Q : Value → Shared → Prop}
    (hC : h.get? C = some (excClassObj nm q C N bs bm hdct sn sub ab col dd k0 k1 k2 k3 k5 "ValueError.__new__")) (he : h.get? e = some (excO C t0)) (hu : h.get? u = some (kxs_mw "ValueError.__init__" e)) (hrest : rest.length ≤ sizeLine)
    (hq : ∀ h' t1, (∀ b o, b ≠ e → h.get? b = some o → h'.get? b = some o) → h'.get? e = some (excO C t1) → Q .none ⟨h', g, d, t, os⟩) :
    wpAny (model prog w) A (call (.ref u) rest) Q E ⟨h, g, d, t, os⟩ := by
  refine wpAny_call (codeAny_of_tree ?_)
  show wpAny _ A.in1 (callAny (.ref u) ⟨rest, []⟩) _ _ _
  simp only [callAny]
  refine wpAny_bind (wpAny_load hu ?_)
  simp only [kxs_mw, show (Value.type "method-wrapper" == Value.type "method" || Value.type "method-wrapper" == Value.type "builtin_function_or_method" || Value.type "method-wrapper" == Value.type "method-wrapper") = true by decide, if_true]
  refine KFB.if_so (by decide) ?_
  refine wpAny_bind (check_bound_init F.excBase_ValueError.toExcCallFacts hC he rfl ?_)
  refine wpAny_bind (wpAny_pure (wpAny_pure ?_))
  refine ⟨plainId_quiet F.excBase_ValueError.init.plain _, codeAny_builtin F.excBase_ValueError.initEntry ?_⟩
  exact exc_init_tree (cls := .ref C) (t0 := t0) (dv := none) (c2 := .none) (c3 := .none) (b4 := .bool false) he hrest fun h' k he' _ => hq h' _ k he'
end
section
variable {prog : Program} {w : World} {A : Around} {E : Value → Shared → Prop} {R : Result → Shared → Prop} {s : Shared} {K : Frag} {mg : Str → Option Value} {C fI : Addr}
theorem bad_init (T : Txt prog K mg C fI) {x t0 : Addr} {nm : Str} {tk : Tok} (X : K.In s.heap) (hg : s.heap.Ns mainGlobals mg) (hb : ∃ mb, s.heap.Ns builtinsNs mb ∧ ∀ x : Str, x ≠ "__name__" → mb x = bootBuiltins x) (hlim : s.heap.NoLimit)
    (hx : s.heap.get? x = some (excO C t0)) (hnx : K.lookup x = none) (hroom : A.depth < recursionLimit) (hz : nm.length ≤ 1000)
    (hq : ∀ h' tk' dx, InitEnd s.heap h' x C dx (.str nm tk) → R (.ok (.ret .none)) { s with heap := h', toks := tk' }) :
    codeAny (model prog w) A (.call (.ref fI) ⟨[.ref x, .str nm tk], []⟩) R s := by
  obtain ⟨oc, od, doc, pm, an, cda, cc, ct, osl, ccl, cdd, vs, ccs, file, tf, cl, cld, csl, ho, hcd, hcda, hvs, hfile, hcell⟩ := T.fn
  obtain ⟨cn, qn, N, bs, bm, sn, sub, ab, col, dd, k0, k1, k2, k3, k5, hC, hbm⟩ := T.cls
  have hcl : clsIn K C = some { name := cn, bases := bs, mro := .ref C :: bm, ns := N, qualname := qn, hasDict := true, slotNames := sn, subclasses := sub, abstract := ab, collection := col, hasDel := false } := by unfold clsIn; rw [hC] <;> rfl
  refine ks_codeAny_call_defAt (fd := ksFn "__init__" "BadArgument.__init__" iA iB iS .none .none doc pm an (.ref cda) ct cc) (binds := [("self", .ref x), ("name", .str nm tk)]) hroom (X _ _ ho) rfl hlim (codeRec_of X hcd) rfl
    (BindsTo.of_eq (by first | rfl | with_unfolding_all rfl)) (by show ∀ x ∈ iS.names, x.2 ≠ .cell; decide) (fun y hy => ?_) (fun h₁ hns k => ?_) rfl rfl rfl
  · rcases List.mem_cons.mp hy with rfl | hy
    · rfl
    · rcases List.mem_cons.mp hy with rfl | hy
      · rfl
      · cases hy
  have X₁ : K.In h₁ := X.keeps k
  have hx₁ := k _ _ hx
  obtain ⟨mb, hb1, hb2⟩ := hb
  obtain ⟨oD, hD1, hD2⟩ := fundamental hcl
  show _root_.PySem.wpAt (model prog w) (A.deeper (ksEnv "BadArgument.__init__" iS s.heap.objs.size fI (.ref cda) cc)) (.func _ (ksEnv "BadArgument.__init__" iS s.heap.objs.size fI (.ref cda) cc)) (execs [_, _] (ksEnv "BadArgument.__init__" iS s.heap.objs.size fI (.ref cda) cc)) _ _ _
  refine ks_wpAt_execs_cons (ks_wpAt_Expr_any (ks_wpAt_MethodCall ?_))
  refine ks_wpAt_super_base (f := fI) (cc := cda) rfl rfl rfl rfl (X₁ _ _ ho) rfl rfl rfl (X₁ _ _ hcda) rfl hvs hfile T.top ?_
  refine ks_loadName_global rfl rfl (loadGlobal_builtin (hg.keeps k) T.gS (hb1.keeps k) ((hb2 _ (by decide)).trans (by first | rfl | decide +kernel)) ⟨rfl, ?_⟩)
  refine wpAny_loadName_free rfl rfl rfl ⟨_, X₁ _ _ hcell, rfl⟩ ?_
  refine wpAny_loadName_local (v := .ref x) rfl rfl hns (by first | rfl | with_unfolding_all rfl | kernel_rfl) ?_
  refine ks_wpAny_isType_cls (X₁ _ _ hD1) hD2 ⟨rfl, ?_⟩
  refine ks_wpAny_call_super (X₁ _ _ hD1) hD2 hx₁ rfl (fun c e => by cases e) (looks_mroIn X₁ T.mro) (fun h₂ hso k₂ => ?_)
  have X₂ : K.In h₂ := X₁.keeps k₂
  have hx₂ := k₂ _ _ hx₁
  have hsup := T.sup
  unfold ks_superIn at hsup
  rw [hcl] at hsup
  have hI : Looks (model prog w) h₂ (isInstance (.ref x) (.type "ValueError")) true := InstAt.type (od := none) ⟨hx₂, rfl, rfl, trivial⟩ |>.andThen (looks_subIn X₂ T.veC)
  have xC : x ≠ C := ks_ne (odx := none) X₂ ⟨hx₂, rfl, rfl, trivial⟩ hcl
  refine kxs_getMethod kxs_ValueError hso (looks_opaque X₂ T.tp) (l₀ := .ref C :: bm) (fun A Q E s k q => wpAny_bind ((looks_clsIn X₂ hcl) A _ E s k (wpAny_pure q))) rfl X₂ hsup hI xC rfl ?_
  have hmw : (h₂.push (kxs_mw "ValueError.__init__" x)).get? h₂.objs.size = some (kxs_mw "ValueError.__init__" x) := Heap.get?_push_at rfl rfl
  have k₃ : ∀ b o, h₂.get? b = some o → (h₂.push (kxs_mw "ValueError.__init__" x)).get? b = some o := fun b o e => Heap.get?_push_of_some _ e
  refine kxs_callWith (i := "ValueError.__init__") (x := x) rfl (evalArgs_plain ?_)
  refine spliced_cons ?_
  refine wpAny_BinOp (Constant_str ?_)
  refine wpAny_Name (wpAny_loadName_local (v := .str nm tk) rfl rfl (hns.keeps fun b o e => k₃ b o (k₂ b o e)) (by first | rfl | with_unfolding_all rfl | kernel_rfl) ?_) (by decide)
  refine PyProof.Rows.add_str (fun tk1 tk2 => ?_) ?_
  · refine spliced_nil ⟨hmw, ?_⟩
    refine call_mw (X₂.keeps k₃ _ _ hC) (k₃ _ _ hx₂) hmw (one_size _) fun h₄ t1 k₄ hx₄ => ?_
    refine wpAt_of_wpAny (wpAny_execs_cons (plainObj_wpAny_Assign_Attribute ?_))
    have kk : ∀ b o, b ≠ x → h₁.get? b = some o → h₄.get? b = some o := fun b o n e => k₄ b o n (k₃ b o (k₂ b o e))
    have X₄ : K.In h₄ := fun a o e => kk a o (fun z => by
      rw [z, hnx] at e
      cases e) (X₁ _ _ e)
    have xL : s.heap.objs.size ≠ x := Nat.ne_of_gt (Heap.lt_size hx)
    have hns₄ : h₄.Ns s.heap.objs.size (fun y => List.lookup y [(("self" : Str), Value.ref x), (("name" : Str), Value.str nm tk)].reverse) := hns.at fun o e => kk _ o xL e
    refine wpAny_Name (wpAny_loadName_local (v := .str nm tk) rfl rfl hns₄ (by first | rfl | with_unfolding_all rfl | kernel_rfl) ?_) (by decide)
    refine wpAny_Name (wpAny_loadName_local (v := .ref x) rfl rfl hns₄ (by first | rfl | with_unfolding_all rfl | kernel_rfl) ?_) (by decide)
    refine set_plain X₄ (ox := excO C t1) (od := none) ⟨hx₄, rfl, rfl, trivial⟩ T.sa ?_
    refine exc_osa X₄ hx₄ hcl (show refsVE (.ref C :: bm) = true from hbm) rfl T.noN (fun h₅ tk₅ dx k₅ dn dne hx₅ hn₅ => ?_)
    have old : ∀ b o, b ≠ x → s.heap.get? b = some o → h₄.get? b = some o := fun b o n e => kk b o n (k b o e)
    have lt : s.heap.objs.size < h₄.objs.size := by
      obtain ⟨o, _, _, e, _⟩ := hns₄
      exact Heap.lt_size e
    show wpAny _ _ (execs [] _) _ _ _
    exact wpAny_execs_nil (hq h₅ tk₅ dx ⟨fun b o n e => k₅ b o n (old b o n e), ⟨t1, hx₅⟩, Nat.le_of_lt (Nat.lt_of_lt_of_le lt dn), dne, hn₅⟩)
  · rw [sizeLine_eq]
    have e : (Str.ofString "bad argument: ").length = 14 := by decide +kernel
    show (Str.ofString "bad argument: ").length + nm.length ≤ 16777216
    omega
theorem bad_made (T : Txt prog K mg C fI) {nm : Str} {tk : Tok} (X : K.In s.heap) (hg : s.heap.Ns mainGlobals mg) (hb : ∃ mb, s.heap.Ns builtinsNs mb ∧ ∀ x : Str, x ≠ "__name__" → mb x = bootBuiltins x) (hlim : s.heap.NoLimit) (hroom : A.depth + 1 < recursionLimit) (hz : nm.length ≤ 1000)
    (hq : ∀ h' tk' e d, OwnMade s.heap h' e C d (.str nm tk) → R (.ok (.ret (.ref e))) { s with heap := h', toks := tk' }) :
    codeAny (model prog w) A (.call (.ref C) ⟨[.str nm tk], []⟩) R s := by
  obtain ⟨cn, qn, N, bs, bm, sn, sub, ab, col, dd, k0, k1, k2, k3, k5, hC, hbm⟩ := T.cls
  obtain ⟨hp, g, dr, tk0, os⟩ := s
  have k : ∀ b o, hp.get? b = some o → ((hp.push (kdv_tup [.str nm tk])).push (excO C hp.objs.size)).get? b = some o := fun b o e => Heap.get?_push_of_some _ (Heap.get?_push_of_some _ e)
  have hget : ((hp.push (kdv_tup [.str nm tk])).push (excO C hp.objs.size)).get? (hp.objs.size + 1) = some (excO C hp.objs.size) := by heap_get
  have hnx : K.lookup (hp.objs.size + 1) = none := by
    cases e : K.lookup (hp.objs.size + 1) with
    | none => rfl
    | some o =>
      have z : hp.get? (hp.objs.size + 1) = some o := X _ _ e
      exact absurd (Nat.lt_of_succ_lt (Heap.lt_size z)) (Nat.lt_irrefl _)
  refine call_own F.excBase_ValueError (fun X => refsVE_contains X bm hbm) (X _ _ hC) (looks_findIn X T.iC) (fun self => bind_fn X self T.tC) (one_size _) ?_
  refine bad_init (s := ⟨(hp.push (kdv_tup [.str nm tk])).push (excO C hp.objs.size), g, dr, tk0, os⟩) T (X.keeps k) (hg.keeps k) (by
    obtain ⟨mb, b1, b2⟩ := hb
    exact ⟨mb, b1.keeps k, b2⟩) (hlim.keeps k) hget hnx ?_ hz fun h' tk' dx ⟨k', hx, dn, dne, hns⟩ => ?_
  · show A.depth + 1 < recursionLimit
    exact hroom
  · have old : ∀ b o, hp.get? b = some o → h'.get? b = some o := fun b o e => k' b o (Nat.ne_of_lt (Nat.lt_succ_of_lt (Heap.lt_size e))) (k b o e)
    have z : hp.objs.size + 1 + 1 ≤ dx := by
      first
        | (simpa only [Heap.size_push] using dn)
        | exact dn
        | (have q := dn; rw [Heap.size_push, Heap.size_push] at q; exact q)
    obtain ⟨t1, hx⟩ := hx
    exact ⟨rfl, hq h' tk' (hp.objs.size + 1) dx ⟨old, Nat.le_succ _, ⟨_, _, hx, rfl, rfl, rfl, rfl⟩, Nat.le_trans (Nat.le_trans (Nat.le_succ _) (Nat.le_succ _)) z, dne, hns⟩⟩
end
end BadX
end PySem

set_option Elab.async false
set_option linter.all false
set_option maxRecDepth 100000
set_option maxHeartbeats 4000000
/-! N11: raise BadArgument(e); its name read. -/
namespace L2
open PySem PySem.Spec PyProof.Rows
theorem relO_bad {v : V} {v' : Value} (r : RelV v v') (f : Str) : RelO (List.lookup f [(("name" : Str), v)]) (if f = "name" then some v' else none) := by
  by_cases hw : f = "name"
  · subst hw
    rw [if_pos rfl]
    have q : List.lookup ("name" : Str) [(("name" : Str), v)] = some v := by simp [List.lookup]
    rw [q]
    exact r
  · rw [if_neg hw]
    have qw : (f == ("name" : Str)) = false := by simpa using hw
    have q2 : List.lookup f [(("name" : Str), v)] = none := by simp [List.lookup, qw]
    rw [q2]
    trivial
section
variable {X : Cx} {C fI : Addr}
/-- BadArgument(e) -/
def tMkBad (C : Addr) (ta : TA) : St → Hp → XK → Prop := fun σ H Q => ta σ H fun vs H1 => ∃ nm : Str, vs = [.str nm] ∧ nm.length ≤ 1000 ∧ ∀ d, H1 d = none → Q (.ref C) (some d) (upd H1 d (.xd [(("name" : Str), .str nm)]))
theorem pmk_bad {a : Expr} {ta : TA} {p pos : Pos} {k : Nat} (T : PySem.BadX.Txt X.prog X.K X.mg C fI) (hr : Room k X.A) (hk : 1 ≤ k) (ha : PA X [a] ta) (hg : Gl X "BadArgument" := by rfl)
    (he : starEach (a :: []) X.env = (false, eval a X.env) :: starEach [] X.env := by rfl) (hpl : (backTo pos (starEach [] X.env)).any (·.1) = false := by rfl) :
    PMk X (.Call (.Name "BadArgument" p) [a] [] pos) (tMkBad C ta) := by
  intro pins s σ H Q I h
  refine wpAny_Call_Name_kw (ld_glob I hg T.gC ?_)
  refine PySem.W.callWith_K (h₀ := X.base) I.ok.mod.kin T.kC (thn (ha.run pos pins s σ H _ I h) fun us s1 hh => ?_) he hpl
  obtain ⟨vs, H1, I1, r1, nm, ev, hz, q1⟩ := hh
  subst ev
  refine ⟨I1.kIn, ?_⟩
  cases r1 with
  | cons rv rn =>
    rename_i v' us'
    cases rn
    have rvv : RelV (.str nm) v' := rv
    obtain ⟨tk0, rfl⟩ : ∃ tk0, v' = Value.str nm tk0 := rv
    have rr : RelV (.str nm) (.str nm tk0) := rvv
    show wpAny _ _ (call (.ref C) [.str nm tk0]) _ _ _
    have hlim := I1.nolimit
    have hgl := I1.mod.glob.keeps I1.bk
    have hbl : ∃ mb, s1.heap.Ns builtinsNs mb ∧ ∀ x : Str, x ≠ "__name__" → mb x = bootBuiltins x := by
      obtain ⟨mb, h1, h2⟩ := I1.mod.blt
      exact ⟨mb, h1.keeps I1.bk, h2⟩
    obtain ⟨hp, g, dr, tk, os⟩ := s1
    refine wpAny_call (PySem.BadX.bad_made T I1.kIn hgl hbl hlim (by have := hr.dp; omega) hz fun h' tk' e d M => ?_)
    show MkP X pins σ Q (.ref e) ⟨h', g, dr, tk', os⟩
    obtain ⟨oe, fv, hoe, hc, hd, hdat, h1⟩ := M.obj
    have hns := M.ns
    obtain ⟨G', g1, g2⟩ := restrict h' fun b => decide (b ≠ e)
    have gk : ∀ b, b ≠ e → G'.get? b = h'.get? b := fun b hb => g1 b (decide_eq_true hb)
    have ge : G'.get? e = none := g2 e (by simp)
    have old : ∀ b o, hp.get? b = some o → G'.get? b = some o := fun b o q => (gk b (Nat.ne_of_lt (Nat.lt_of_lt_of_le (Heap.lt_size q) M.new))).trans (M.keep b o q)
    have ob : ObjOk X.prog X.w (upd H1 d (.xd [(("name" : Str), .str nm)])) G' d (.xd [(("name" : Str), .str nm)]) :=
      ⟨_, hns.at (fun o q => (gk d M.dne).trans q), fun f => relO_bad rr f⟩
    have J : Inv X pins σ (upd H1 d (.xd [(("name" : Str), .str nm)])) ⟨G', g, dr, tk', os⟩ := I1.laid (t' := tk') old M.dbig ob
    refine ⟨e, oe, fv, ⟨G', g, dr, tk', os⟩, _, .ref C, some d, rfl, J, fun b o q => ?_, ge, hoe, ⟨hc, hd⟩, hdat, h1, ?_, rfl, I1.bare, raises_own T.exC T.tyC, q1 d (I1.hok.fresh M.dbig)⟩
    · by_cases hb : b = e
      · have q' : G'.get? b = some o := q
        rw [hb, ge] at q'; cases q'
      · exact (gk b hb).symm.trans q
    · rw [upd_ne (Ne.symm M.dne)]
      exact I1.hok.fresh M.new
/-- raise BadArgument(e) -/
def tRaiseBad (C : Addr) (W : WX) (ta : TA) : TS := fun _ σ H => tMkBad C ta σ H fun cls d H' => W cls d σ H'
theorem ps_raiseBad {a : Expr} {ta : TA} {W : WX} {p pos pos2 : Pos} {k : Nat} (hc : X.calm = true) (T : PySem.BadX.Txt X.prog X.K X.mg C fI) (hr : Room k X.A) (hk : 1 ≤ k) (tk : Takes X W) (ha : PA X [a] ta) (hg : Gl X "BadArgument" := by rfl)
    (he : starEach (a :: []) X.env = (false, eval a X.env) :: starEach [] X.env := by rfl) (hpl : (backTo pos (starEach [] X.env)).any (·.1) = false := by rfl) :
    PS X (.Raise (some (.Call (.Name "BadArgument" p) [a] [] pos)) none pos2) (tRaiseBad C W ta) := ps_raise hc tk (pmk_bad T hr hk ha hg he hpl)
/-- e.name, e the exception that the suite holds (at a; its class cls, its dict d) -/
def tXName (C : Addr) (a : Addr) (cls : Value) (d : Option Addr) (te : TE) : TE := fun σ H Q => te σ H fun x H1 => x = .ref a ∧ cls = .ref C ∧ ∃ (dd : Addr) (v : V), d = some dd ∧ H1 dd = some (.xd [(("name" : Str), v)]) ∧ Q v H1
theorem pe_xname {a : Addr} {oe : Obj} {cls : Value} {d : Option Addr} {pn : List (Addr × Obj)} {e : Expr} {te : TE} {pos : Pos} (T : PySem.BadX.Txt X.prog X.K X.mg C fI) (hz : Zc cls d oe) (hf : ∃ vs, oe.data = .fields vs) (he : PE (X.suite a ((a, oe) :: pn)) e te)
    (hb : attributeBase e "name" X.env (eval e X.env) = eval e X.env := by rfl) :
    PE (X.suite a ((a, oe) :: pn)) (.Attribute e "name" pos) (tXName C a cls d te) := by
  refine ⟨fun pins s σ H Q I h => ?_⟩
  refine attr_of hb (thn (he.run pins s σ H _ I h) fun u s1 hh => ?_)
  obtain ⟨x, H1, I1, rx, ex, ec, dd, v, ed, ea, q⟩ := hh
  subst ex
  obtain rfl : u = Value.ref a := rx
  subst ec
  subst ed
  obtain ⟨ha, _⟩ := I1.pin (a, oe) (List.mem_append_left _ List.mem_cons_self)
  obtain ⟨vs, hd⟩ := hf
  have hx : ObjOk X.prog X.w H1 s1.heap dd (.xd [(("name" : Str), v)]) := I1.hok dd _ ea
  obtain ⟨mA, hns, hr⟩ := hx
  obtain ⟨od, ho, hl⟩ := lookIn_ns hns
  have l : List.lookup ("name" : Str) [(("name" : Str), v)] = some v := by simp [List.lookup]
  obtain ⟨u, hu, ru⟩ := RelO.some_of (v := v) (o := mA "name") (by rw [← l]; exact hr "name")
  have J : PySem.W.InstAt s1.heap a oe C (some od) := ⟨ha, hz.1, by unfold PySem.W.notCls; rw [hd] <;> rfl, by rw [hz.2]; exact ho⟩
  exact HandSPX.exc_get I1.kIn J T.ga T.gg T.exC (PySem.W.findObj_own T.hdC T.noN rfl (by rw [hl, hu])) (handed_of ru) ⟨v, H1, I1.tok _, ru, q⟩
end
/-- an error of the class at S is what «except S» names -/
theorem exm_self {K : PySem.W.Frag} {S : Addr} (h1 : PySem.W.subIn K (.ref S) (.type "BaseException") = some true) (h2 : PySem.W.isClsIn K S = true) (h3 : PySem.W.typeIn K (.ref S) = some (.type "type")) (h4 : PySem.W.subIn K (.ref S) (.ref S) = some true) :
    PySem.W.exmOne K (.ref S) (.ref S) = some true := by
  have e1 : (PySem.W.subIn K (.ref S) (.type "BaseException") == some true) = true := by rw [h1] <;> rfl
  have e2 : ((PySem.W.clsIn K S).isSome && PySem.W.typeIn K (.ref S) == some (.type "type")) = true := by
    have h2' : (PySem.W.clsIn K S).isSome = true := h2
    rw [h2', h3] <;> rfl
  show (if (PySem.W.subIn K (.ref S) (.type "BaseException") == some true) = true then (if ((PySem.W.clsIn K S).isSome && PySem.W.typeIn K (.ref S) == some (.type "type")) = true then PySem.W.subIn K (.ref S) (.ref S) else none) else none) = some true
  rw [if_pos e1, if_pos e2]
  exact h4
end L2

set_option Elab.async false
set_option linter.all false
set_option maxRecDepth 100000
set_option maxHeartbeats 4000000
/-! N12: calls of defs; what a def promises. -/
namespace N
open PySem PySem.Spec PyProof.Rows L2
variable [TabOf]
/-- a call's end: a datum, or the error with its name -/
inductive Res where
  | ok (d : PyData) | bad (x : Str)
section
variable {w : Wd} {en : En} {σ : L2.St} {H H' : Hp} {i : Nat}
theorem Rows.fr {M : Addr → Prop} {H H' : Hp} (f : Fr M H H') (k : ∀ b vs, H b = some (.lst vs) → M b → H' b = some (.lst vs)) : ∀ {dss : List (List PyData)} {rs : List Addr}, (∀ r ∈ rs, M r) → Rows M H dss rs → Rows M H' dss rs
  | [], _, _, h => h
  | ds :: dss, _, hm, h => by
    obtain ⟨r, rr, vs, rfl, h1, h2, h3⟩ := h
    exact ⟨r, rr, vs, rfl, k _ _ h1 (hm r List.mem_cons_self), Reps.fr f _ _ h2, Rows.fr f k (fun r hr => hm r (List.mem_cons_of_mem _ hr)) h3⟩
/-- nothing tracked is changed -/
theorem Ok.fr0 (o : Ok w en σ H) (f : Fr (fun _ => False) H H') (t : LamX.Tabs w.T H') : Ok w en σ H' := by
  have fm : Fr w.M H H' := f.weak fun a z => z.elim
  have kl : ∀ b vs, H b = some (.lst vs) → H' b = some (.lst vs) := fun b vs e => f b _ e id fun ps z => by cases z
  refine ⟨o.la, o.ls, fun j s e => ?_, o.dj, o.nd, o.fresh, fun a h => ?_, fun b u e n t => ?_, t, fun p hp => kl _ _ (o.held p hp), o.hd, o.hf, fun a h => ?_, fun p hp => Rep.fr fm _ _ (o.keep p hp)⟩
  · obtain ⟨a, x, e1, e2, e3⟩ := o.slot j s e
    refine ⟨a, x, e1, e2, ?_⟩
    cases s with
    | no => exact e3
    | im d =>
      obtain ⟨q1, v, q2, q3⟩ := e3
      exact ⟨q1, v, q2, Rep.fr fm _ _ q3⟩
    | mu ds =>
      obtain ⟨b, us, q1, q2, q3, q4⟩ := e3
      exact ⟨b, us, q1, q2, kl _ _ q3, Reps.fr fm _ _ q4⟩
    | m2 dss =>
      obtain ⟨b, rs, q1, q2, q3, q4⟩ := e3
      refine ⟨b, rs, q1, q2, kl _ _ q3, Rows.fr fm (fun b vs e _ => kl b vs e) (fun r hr => ?_) q4⟩
      exact Wd.M_of e1 (by rw [q1]; exact List.mem_cons_of_mem _ hr)
  · obtain ⟨vs, e⟩ := o.dom a h
    exact ⟨vs, kl _ _ e⟩
  · exact f b u (o.fr b u e n t) id t
  · obtain ⟨vs, e⟩ := o.p0 a h
    exact ⟨vs, kl _ _ e⟩
/-- but for one list that this def changes -/
theorem Ok.fr1 (o : Ok w en σ H) {a : Addr} {ds' : List PyData} {vs' : List V} (f : Fr (fun b => b = a) H H') (t : LamX.Tabs w.T H') (hi : w.as[i]? = some [a]) (hs : σ[i]? = some (some (.ref a))) (hH : H' a = some (.lst vs')) (r : Reps w.M H' ds' vs') : Ok w (en.set i (.mu ds')) σ H' := by
  have ma : w.M a := Wd.M_of hi List.mem_cons_self
  have fm : Fr w.M H H' := f.weak fun b z => by
    rw [z]
    exact ma
  have kl : ∀ b vs, H b = some (.lst vs) → b ≠ a → H' b = some (.lst vs) := fun b vs e n => f b _ e n fun ps z => by cases z
  have hil : i < en.length := by rw [← o.la]; exact get_lt hi
  refine ⟨by rw [List.length_set]; exact o.la, by rw [List.length_set]; exact o.ls, fun j s e => ?_, o.dj, o.nd, o.fresh, fun b h => ?_, fun b u e n t => ?_, t, fun p hp => ?_, o.hd, o.hf, fun b h => ?_, fun p hp => Rep.fr fm _ _ (o.keep p hp)⟩
  · by_cases h : i = j
    · subst h
      rw [List.getElem?_set_self hil] at e
      cases e
      exact ⟨[a], _, hi, hs, a, vs', rfl, rfl, hH, r⟩
    · rw [List.getElem?_set_ne h] at e
      obtain ⟨l, x, e1, e2, e3⟩ := o.slot j s e
      refine ⟨l, x, e1, e2, ?_⟩
      have na : ∀ b ∈ l, b ≠ a := fun b hb z => h (o.dj i j [a] l a hi e1 List.mem_cons_self (by rw [← z]; exact hb))
      cases s with
      | no => exact e3
      | im d =>
        obtain ⟨q1, v, q2, q3⟩ := e3
        exact ⟨q1, v, q2, Rep.fr fm _ _ q3⟩
      | mu ds =>
        obtain ⟨b, us, q1, q2, q3, q4⟩ := e3
        exact ⟨b, us, q1, q2, kl _ _ q3 (na b (by rw [q1]; exact List.mem_cons_self)), Reps.fr fm _ _ q4⟩
      | m2 dss =>
        obtain ⟨b, rs, q1, q2, q3, q4⟩ := e3
        refine ⟨b, rs, q1, q2, kl _ _ q3 (na b (by rw [q1]; exact List.mem_cons_self)), ?_⟩
        have rows : ∀ (dss : List (List PyData)) (rs : List Addr), (∀ r ∈ rs, r ≠ a) → Rows w.M H dss rs → Rows w.M H' dss rs := by
          intro dss
          induction dss with
          | nil => exact fun rs _ q => q
          | cons ds dss ih =>
            intro rs hn q
            obtain ⟨r, rr, us, rfl, z1, z2, z3⟩ := q
            exact ⟨r, rr, us, rfl, kl _ _ z1 (hn r List.mem_cons_self), Reps.fr fm _ _ z2, ih rr (fun c hc => hn c (List.mem_cons_of_mem _ hc)) z3⟩
        exact rows dss rs (fun r hr => na r (by rw [q1]; exact List.mem_cons_of_mem _ hr)) q4
  · by_cases hb : b = a
    · exact ⟨_, by rw [hb]; exact hH⟩
    · obtain ⟨vs, e⟩ := o.dom b h
      exact ⟨vs, kl _ _ e hb⟩
  · have nb : b ≠ a := fun z => by
      rcases o.fresh a ⟨i, [a], hi, List.mem_cons_self⟩ with q | q
      · exact n (by rw [z]; exact q)
      · obtain ⟨ps, hps⟩ := q u (by rw [← z]; exact e)
        exact t ps hps
    exact f b u (o.fr b u e n t) nb t
  · exact kl _ _ (o.held p hp) fun z => o.hd p hp ⟨i, [a], hi, by rw [z]; exact List.mem_cons_self⟩
  · by_cases hb : b = a
    · exact ⟨_, by rw [hb]; exact hH⟩
    · obtain ⟨vs, e⟩ := o.p0 b h
      exact ⟨vs, kl _ _ e hb⟩
end
/-- a def that changes nothing: G tells what it makes of its arguments -/
def spEnd (C : Addr) (M : Addr → Prop) (H : Hp) (Q : VK) (E : XK) : Res → Prop
  | .ok d => ∀ v H', Fr (fun _ => False) H H' → LamX.Tabs TabOf.T H' → Rep M H' d v → Q v H'
  | .bad x => ∀ dd H', Fr (fun _ => False) H H' → LamX.Tabs TabOf.T H' → H' dd = some (.xd [(("name" : Str), .str x)]) → E (.ref C) (some dd) H'
def spP (C : Addr) (n : Nat) (G : List PyData → Option Res) : Sp := fun vs H Q E => ∃ (M : Addr → Prop) (ds : List PyData) (r : Res), vs.length = n ∧ Dom M H ∧ LamX.Tabs TabOf.T H ∧ Reps M H ds vs ∧ G ds = some r ∧ spEnd C M H Q E r
/-- a def that changes the list that is its first argument -/
def spD (n : Nat) (G : List PyData → List PyData → Option (List PyData × PyData)) : Sp := fun vs H Q _ => ∃ (M : Addr → Prop) (a : Addr) (us rest : List V) (dd ds dd' : List PyData) (d : PyData), vs = .ref a :: rest ∧ rest.length + 1 = n ∧ M a ∧ Dom M H ∧ LamX.Tabs TabOf.T H ∧ H a = some (.lst us) ∧ Reps M H dd us ∧ Reps M H ds rest ∧ G dd ds = some (dd', d) ∧
  ∀ v us' H', Fr (fun b => b = a) H H' → LamX.Tabs TabOf.T H' → H' a = some (.lst us') → Reps M H' dd' us' → Rep M H' d v → Q v H'
section
variable {pb : Bool} {C : Addr} {E : XK} {ta tk : TA} {A B : FA} {n i : Nat} {G : List PyData → Option Res} {GD : List PyData → List PyData → Option (List PyData × PyData)} {te : TE} {Fe : FE}
omit [TabOf] in
def okOf : Option Res → Option PyData
  | some (.ok d) => some d
  | _ => none
theorem okOf_eq {o : Option Res} {d : PyData} (h : okOf o = some d) : o = some (.ok d) := by
  unfold okOf at h
  split at h
  · cases h
    rfl
  · cases h
omit [TabOf] in
/-- f(e, ..), no error -/
def fCall (G : List PyData → Option Res) (A : FA) : FE := fun en => (A en).bind fun p => (okOf (G p.1)).map fun d => (d, p.2)
theorem call_done {w : Wd} {en : En} {σ : L2.St} {H : Hp} {ds : List PyData} {vs : List V} {d : PyData} {E : XK} (o : Ok w en σ H) (r : Reps w.M H ds vs) (hn : vs.length = n) (e : G ds = some (.ok d)) (Q : VK) (q : ∀ v H', Fr w.M H H' → Ok w en σ H' → Rep w.M H' d v → Q v H') : spP C n G vs H Q E :=
  ⟨w.M, ds, .ok d, hn, o.dom, o.tabs, r, e, fun v H' f t rv => q v H' (f.weak fun _ z => z.elim) (o.fr0 f t) rv⟩
theorem ev_call (h : EvA ta A) (hl : LenA A n) : Ev (tCall (spP C n G) [] E ta) (fCall G A) := fun w en σ H d en' o e Q q => by
  unfold fCall at e
  cases e1 : A en with
  | none => rw [e1] at e; cases e
  | some p =>
    rw [e1] at e
    obtain ⟨ds, e2⟩ := p
    simp only [Option.bind_some] at e
    cases e3 : okOf (G ds) with
    | none => rw [e3] at e; cases e
    | some z =>
      rw [e3] at e
      cases e
      refine h w en σ H ds _ o e1 _ fun vs H1 f1 o1 r1 => ?_
      show spP C n G (vs ++ []) H1 Q E
      rw [List.append_nil]
      exact call_done o1 r1 (by rw [r1.length, hl _ _ _ e1]) (okOf_eq e3) Q fun v H2 f2 o2 r2 => q v H2 (f1.trans f2) o2 r2
omit [TabOf] in
/-- the same with keywords: pm puts the positional and the keywords' data in order -/
def fCallK (G : List PyData → Option Res) (pm : List PyData → List PyData → List PyData) (A B : FA) : FE := fun en => (A en).bind fun p => (B p.2).bind fun q => (okOf (G (pm p.1 q.1))).map fun d => (d, q.2)
theorem ev_callK {gV : List V → List V → List V} {pm : List PyData → List PyData → List PyData} {m k : Nat} (h : EvA ta A) (hk : EvA tk B) (hl : LenA A m) (hlk : LenA B k)
    (hpm : ∀ (M : Addr → Prop) (H : Hp) (ds es : List PyData) (vs us : List V), ds.length = m → es.length = k → Reps M H ds vs → Reps M H es us → Reps M H (pm ds es) (gV vs us) ∧ (gV vs us).length = n) :
    Ev (tCallK (spP C n G) gV E ta tk) (fCallK G pm A B) := fun w en σ H d en' o e Q q => by
  unfold fCallK at e
  cases e1 : A en with
  | none => rw [e1] at e; cases e
  | some p =>
    rw [e1] at e
    obtain ⟨ds, e2⟩ := p
    simp only [Option.bind_some] at e
    cases e4 : B e2 with
    | none => rw [e4] at e; cases e
    | some p2 =>
      rw [e4] at e
      obtain ⟨es, e5⟩ := p2
      simp only [Option.bind_some] at e
      cases e3 : okOf (G (pm ds es)) with
      | none => rw [e3] at e; cases e
      | some z =>
        rw [e3] at e
        cases e
        refine h w en σ H ds e2 o e1 _ fun vs H1 f1 o1 r1 => ?_
        refine hk w e2 σ H1 es _ o1 e4 _ fun us H2 f2 o2 r2 => ?_
        obtain ⟨rr, ll⟩ := hpm w.M H2 ds es vs us (hl _ _ _ e1) (hlk _ _ _ e4) (Reps.fr f2 _ _ r1) r2
        exact call_done o2 rr ll (okOf_eq e3) Q fun v H3 f3 o3 r3 => q v H3 ((f1.trans f2).trans f3) o3 r3
omit [TabOf] in
/-- f(e, ..) as a statement: its error goes on -/
def sCallX (G : List PyData → Option Res) (A : FA) : FS := fun en => (A en).bind fun p => (G p.1).map fun r => match r with
  | .ok _ => .nx p.2
  | .bad x => .ex x p.2
theorem s_callX (h : EvA ta A) (hl : LenA A n) : EvS pb C E (tDrop (tCall (spP C n G) [] E ta)) (sCallX G A) := fun w en σ H out o hh D hpb e Dn p => by
  unfold sCallX at e
  cases e1 : A en with
  | none => rw [e1] at e; cases e
  | some q =>
    rw [e1] at e
    obtain ⟨ds, e2⟩ := q
    simp only [Option.bind_some] at e
    cases e3 : G ds with
    | none => rw [e3] at e; cases e
    | some r =>
      rw [e3] at e
      refine h w en σ H ds e2 o e1 _ fun vs H1 f1 o1 r1 => ?_
      show spP C n G (vs ++ []) H1 _ E
      rw [List.append_nil]
      refine ⟨w.M, ds, r, by rw [r1.length, hl _ _ _ e1], o1.dom, o1.tabs, r1, e3, ?_⟩
      cases r with
      | ok d =>
        cases e
        exact fun v H' f t rv => p w σ H' (.refl w) (o1.fr0 f t)
      | bad x =>
        cases e
        exact fun dd H' f t hd => p w σ H' dd (.refl w) (o1.fr0 f t) hd
omit [TabOf] in
/-- raise BadArgument(e) -/
def sRaise (Fe : FE) : FS := fun en => (Fe en).bind fun p => match p.1 with
  | .str x => if x.length ≤ 1000 then some (.ex x p.2) else none
  | _ => none
theorem s_raise (h : Ev te Fe) : EvS pb C E (tRaiseBad C (fun cls d _ H => E cls d H) (tCons te tNil)) (sRaise Fe) := fun w en σ H out o hh D hpb e Dn p => by
  unfold sRaise at e
  cases e1 : Fe en with
  | none => rw [e1] at e; cases e
  | some q =>
    rw [e1] at e
    obtain ⟨d, e2⟩ := q
    simp only [Option.bind_some] at e
    cases d with
    | str x =>
      by_cases hz : x.length ≤ 1000
      · simp only [if_pos hz] at e
        cases e
        refine h w en σ H _ e2 o e1 _ fun v H1 f1 o1 r1 => ?_
        have r1 : v = .str x := r1
        subst r1
        refine ⟨x, rfl, hz, fun dd hd => ?_⟩
        exact p w σ _ dd (.refl w) (o1.same (same_upd hd)) upd_same
      · simp only [if_neg hz] at e
        cases e
    | _ => cases e
omit [TabOf] in
/-- f(x, e, ..), x a list that f changes -/
def fCallD (i : Nat) (G : List PyData → List PyData → Option (List PyData × PyData)) (A : FA) : FE := fun en => (muAt en i).bind fun _ => (A en).bind fun p => (muAt p.2 i).bind fun dd => (G dd p.1).map fun r => (r.2, p.2.set i (.mu r.1))
theorem ev_callD (h : EvA ta A) (hl : LenA A n) : Ev (tCall (spD (n + 1) GD) [] E (tCons (tVar i) ta)) (fCallD i GD A) := fun w en σ H d en' o e Q q => by
  unfold fCallD at e
  cases e0 : muAt en i with
  | none => rw [e0] at e; cases e
  | some dd0 =>
    rw [e0] at e
    simp only [Option.bind_some] at e
    cases e1 : A en with
    | none => rw [e1] at e; cases e
    | some p =>
      rw [e1] at e
      obtain ⟨ds, e2⟩ := p
      simp only [Option.bind_some] at e
      cases e4 : muAt e2 i with
      | none => rw [e4] at e; cases e
      | some dd =>
        rw [e4] at e
        simp only [Option.bind_some] at e
        cases e3 : GD dd ds with
        | none => rw [e3] at e; cases e
        | some z =>
          rw [e3] at e
          obtain ⟨dd', d'⟩ := z
          cases e
          obtain ⟨a, us, a1, a2, a3, a4⟩ := o.mu (muAt_eq e0)
          refine ⟨.ref a, a2, ?_⟩
          refine h w en σ H ds e2 o e1 _ fun vs H1 f1 o1 r1 => ?_
          obtain ⟨b, us1, b1, b2, b3, b4⟩ := o1.mu (muAt_eq e4)
          rw [a2] at b2
          cases b2
          show spD (n + 1) GD (.ref a :: vs ++ []) H1 Q E
          rw [List.append_nil]
          refine ⟨w.M, a, us1, vs, dd, ds, dd', d', rfl, by rw [r1.length, hl _ _ _ e1], Wd.M_of b1 List.mem_cons_self, o1.dom, o1.tabs, b3, b4, r1, e3, ?_⟩
          intro v us' H' f t hH r rv
          refine q v H' (f1.trans (f.weak fun b z => ?_)) (o1.fr1 f t b1 a2 hH r) rv
          rw [z]
          exact Wd.M_of b1 List.mem_cons_self
end
/-! ### from a body to the promise -/
omit [TabOf] in
def start0 (m : Nat) (ds : List PyData) : En := ds.map Sl.im ++ List.replicate m .no
omit [TabOf] in
def resOf : Option Out → Option Res
  | some (.rt d _) => some (.ok d)
  | some (.nx _) => some (.ok .none)
  | some (.ex x _) => some (.bad x)
  | _ => none
omit [TabOf] in
/-- what a body makes of its arguments (n of N names) -/
def runP (N n : Nat) (F : FS) : List PyData → Option Res := fun ds => if ds.length = n then resOf (F (start0 (N - n) ds)) else none
theorem start_ok {M : Addr → Prop} {H : Hp} {ds : List PyData} {vs : List V} (D : Dom M H) (t : LamX.Tabs TabOf.T H) (r : Reps M H ds vs) (m : Nat) :
    Ok ⟨M, [], H, List.replicate (ds.length + m) [], [], []⟩ (start0 m ds) (vs.map some ++ List.replicate m none) H := by
  have rep : ∀ {i : Nat} {l : List Addr}, (List.replicate (ds.length + m) ([] : List Addr))[i]? = some l → l = [] := fun {i l} e => by
    rw [List.getElem?_replicate] at e
    split at e <;> cases e
    rfl
  have noL : ∀ a, ¬ (Wd.mk M [] H (List.replicate (ds.length + m) []) [] []).L a := fun a ⟨i, l, e, m⟩ => by
    rw [rep e] at m
    cases m
  have mm : ∀ a, (Wd.mk M [] H (List.replicate (ds.length + m) []) [] []).M a → M a := fun a z => by
    rcases z with z | z | ⟨p, hp, _⟩
    · exact z
    · exact absurd z (noL a)
    · cases hp
  refine ⟨?_, ?_, fun i s e => ?_, fun i j l l' a e1 e2 m1 m2 => ?_, fun i l e => ?_, fun a h => absurd h (noL a), fun a h => D a (mm a h), fun b u e n t => e, t, fun p hp => (by cases hp), fun p hp => (by cases hp), fun p hp => (by cases hp), fun a h => (by cases h), fun p hp => (by cases hp)⟩
  · unfold start0
    rw [List.length_append, List.length_map, List.length_replicate, List.length_replicate]
  · unfold start0
    rw [List.length_append, List.length_map, List.length_append, List.length_map, r.length]
    simp
  · by_cases hi : i < ds.length
    · unfold start0 at e
      rw [List.getElem?_append_left (by rw [List.length_map]; exact hi), List.getElem?_map, List.getElem?_eq_getElem hi] at e
      cases e
      obtain ⟨v, hv, rv⟩ := r.get (List.getElem?_eq_getElem hi)
      refine ⟨[], some v, ?_, ?_, rfl, v, rfl, Rep.weak mm _ _ rv⟩
      · show (List.replicate (ds.length + m) ([] : List Addr))[i]? = _
        rw [List.getElem?_replicate, if_pos (by omega)]
      · rw [List.getElem?_append_left (by rw [List.length_map, r.length]; exact hi), List.getElem?_map, hv]
        rfl
    · unfold start0 at e
      rw [List.getElem?_append_right (by rw [List.length_map]; omega), List.length_map, List.getElem?_replicate] at e
      split at e
      · rename_i hm
        cases e
        refine ⟨[], none, ?_, ?_, rfl⟩
        · show (List.replicate (ds.length + m) ([] : List Addr))[i]? = _
          rw [List.getElem?_replicate, if_pos (by omega)]
        · rw [List.getElem?_append_right (by rw [List.length_map, r.length]; omega), List.length_map, r.length, List.getElem?_replicate, if_pos hm]
      · cases e
  · rw [rep e1] at m1
    cases m1
  · rw [rep e]
    exact List.nodup_nil
theorem run_pure {C : Addr} {E : XK} {t : TS} {F : FS} {N n : Nat} (h : EvS true C E t F) {vs : List V} {H : Hp} {Q : VK} (hs : spP C n (runP N n F) vs H Q E) :
    t { nx := fun _ H' => Q .non H', rt := Q } (vs.map some ++ List.replicate (N - n) none) H := by
  obtain ⟨M, ds, r, hn, D, tb, rr, e, q⟩ := hs
  unfold runP at e
  split at e
  · rename_i hd
    have o := start_ok D tb rr (N - n)
    cases e1 : F (start0 (N - n) ds) with
    | none => rw [e1] at e; cases e
    | some out =>
      rw [e1] at e
      refine h _ _ _ H out o rfl D (fun _ => rfl) e1 _ ?_
      have fr : ∀ {w' : Wd} {e' : En} {σ' : L2.St} {H' : Hp}, Ext ⟨M, [], H, List.replicate (ds.length + (N - n)) [], [], []⟩ w' → Ok w' e' σ' H' → Fr (fun _ => False) H H' := fun {w' e' σ' H'} x o' b u eb _ t => by
        refine o'.fr b u ?_ ?_ t
        · rw [x.h0]
          exact eb
        · rw [x.p0]
          exact List.not_mem_nil
      cases out with
      | nx e' =>
        cases e
        exact fun w' σ' H' x o' => q .non H' (fr x o') o'.tabs rfl
      | rt d e' =>
        cases e
        exact fun w' v σ' H' x o' rv => q v H' (fr x o') o'.tabs rv
      | ex x e' =>
        cases e
        exact fun w' σ' H' dd y o' hd => q dd H' (fr y o') o'.tabs hd
      | bk _ => cases e
      | ct _ => cases e
  · cases e
omit [TabOf] in
/-- the same for a def that changes its first argument -/
def startD (m : Nat) (dd ds : List PyData) : En := .mu dd :: (ds.map Sl.im ++ List.replicate m .no)
omit [TabOf] in
def resD : Option Out → Option (List PyData × PyData)
  | some (.rt d e) => (muAt e 0).map fun dd => (dd, d)
  | some (.nx e) => (muAt e 0).map fun dd => (dd, .none)
  | _ => none
omit [TabOf] in
def runD (N n : Nat) (F : FS) : List PyData → List PyData → Option (List PyData × PyData) := fun dd ds => if ds.length + 1 = n then resD (F (startD (N - n) dd ds)) else none
theorem startD_ok {M : Addr → Prop} {H : Hp} {a : Addr} {us : List V} {dd ds : List PyData} {vs : List V} (D : Dom M H) (t : LamX.Tabs TabOf.T H) (ha : H a = some (.lst us)) (ma : M a) (rd : Reps M H dd us) (r : Reps M H ds vs) (m : Nat) :
    Ok ⟨M, [a], H, [a] :: List.replicate (ds.length + m) [], [], []⟩ (startD m dd ds) (some (.ref a) :: (vs.map some ++ List.replicate m none)) H := by
  have rep : ∀ {i : Nat} {l : List Addr}, (List.replicate (ds.length + m) ([] : List Addr))[i]? = some l → l = [] := fun {i l} e => by
    rw [List.getElem?_replicate] at e
    split at e <;> cases e
    rfl
  have at_ : ∀ {i : Nat} {l : List Addr}, ([a] :: List.replicate (ds.length + m) ([] : List Addr))[i]? = some l → (i = 0 ∧ l = [a]) ∨ l = [] := fun {i l} e => by
    cases i with
    | zero =>
      cases e
      exact .inl ⟨rfl, rfl⟩
    | succ i => exact .inr (rep (by simpa using e))
  have ml : ∀ b, (Wd.mk M [a] H ([a] :: List.replicate (ds.length + m) []) [] []).L b → b = a := fun b ⟨i, l, e, m⟩ => by
    rcases at_ e with ⟨_, rfl⟩ | rfl
    · exact List.mem_singleton.mp m
    · cases m
  have mm : ∀ b, (Wd.mk M [a] H ([a] :: List.replicate (ds.length + m) []) [] []).M b → M b := fun b z => by
    rcases z with z | z | ⟨p, hp, _⟩
    · exact z
    · rw [ml b z]
      exact ma
    · cases hp
  refine ⟨?_, ?_, fun i s e => ?_, fun i j l l' b e1 e2 m1 m2 => ?_, fun i l e => ?_, fun b h => .inl (by rw [ml b h]; exact List.mem_cons_self), fun b h => D b (mm b h), fun b u e n t => e, t, fun p hp => (by cases hp), fun p hp => (by cases hp), fun p hp => (by cases hp), fun b h => ⟨us, by rw [List.mem_singleton.mp h]; exact ha⟩, fun p hp => (by cases hp)⟩
  · unfold startD
    rw [List.length_cons, List.length_cons, List.length_append, List.length_map, List.length_replicate, List.length_replicate]
  · unfold startD
    rw [List.length_cons, List.length_cons, List.length_append, List.length_map, List.length_append, List.length_map, r.length]
    simp
  · cases i with
    | zero =>
      cases e
      exact ⟨[a], _, rfl, rfl, a, us, rfl, rfl, ha, Reps.weak mm _ _ rd⟩
    | succ i =>
      have e : (ds.map Sl.im ++ List.replicate m .no)[i]? = some s := by simpa [startD] using e
      by_cases hi : i < ds.length
      · rw [List.getElem?_append_left (by rw [List.length_map]; exact hi), List.getElem?_map, List.getElem?_eq_getElem hi] at e
        cases e
        obtain ⟨v, hv, rv⟩ := r.get (List.getElem?_eq_getElem hi)
        refine ⟨[], some v, ?_, ?_, rfl, v, rfl, Rep.weak mm _ _ rv⟩
        · show (List.replicate (ds.length + m) ([] : List Addr))[i]? = _
          rw [List.getElem?_replicate, if_pos (by omega)]
        · show (vs.map some ++ List.replicate m none)[i]? = _
          rw [List.getElem?_append_left (by rw [List.length_map, r.length]; exact hi), List.getElem?_map, hv]
          rfl
      · rw [List.getElem?_append_right (by rw [List.length_map]; omega), List.length_map, List.getElem?_replicate] at e
        split at e
        · rename_i hm
          cases e
          refine ⟨[], none, ?_, ?_, rfl⟩
          · show (List.replicate (ds.length + m) ([] : List Addr))[i]? = _
            rw [List.getElem?_replicate, if_pos (by omega)]
          · show (vs.map some ++ List.replicate m none)[i]? = _
            rw [List.getElem?_append_right (by rw [List.length_map, r.length]; omega), List.length_map, r.length, List.getElem?_replicate, if_pos hm]
        · cases e
  · rcases at_ e1 with ⟨h1, _⟩ | rfl
    · rcases at_ e2 with ⟨h2, _⟩ | rfl
      · rw [h1, h2]
      · cases m2
    · cases m1
  · rcases at_ e with ⟨_, rfl⟩ | rfl
    · exact List.nodup_cons.mpr ⟨by simp, List.nodup_nil⟩
    · exact List.nodup_nil
theorem run_D {C : Addr} {E : XK} {t : TS} {F : FS} {N n : Nat} (h : EvS false C E t F) {vs : List V} {H : Hp} {Q : VK} (hs : spD n (runD N n F) vs H Q E) :
    t { nx := fun _ H' => Q .non H', rt := Q } (vs.map some ++ List.replicate (N - n) none) H := by
  obtain ⟨M, a, us, rest, dd, ds, dd', d, rfl, hn, ma, D, tb, ha, rd, rr, e, q⟩ := hs
  unfold runD at e
  split at e
  · have o := startD_ok D tb ha ma rd rr (N - n)
    cases e1 : F (startD (N - n) dd ds) with
    | none => rw [e1] at e; cases e
    | some out =>
      rw [e1] at e
      refine h _ _ _ H out o rfl D (fun z => by cases z) e1 _ ?_
      have fr : ∀ {w' : Wd} {e' : En} {σ' : L2.St} {H' : Hp}, Ext ⟨M, [a], H, [a] :: List.replicate (ds.length + (N - n)) [], [], []⟩ w' → Ok w' e' σ' H' → Fr (fun b => b = a) H H' := fun {w' e' σ' H'} x o' b u eb nb t => by
        refine o'.fr b u ?_ ?_ t
        · rw [x.h0]
          exact eb
        · rw [x.p0]
          exact fun z => nb (List.mem_singleton.mp z)
      have at0 : ∀ {w' : Wd} {e' : En} {σ' : L2.St} {H' : Hp} {dx : List PyData}, Ext ⟨M, [a], H, [a] :: List.replicate (ds.length + (N - n)) [], [], []⟩ w' → Ok w' e' σ' H' → e'[0]? = some (.mu dx) → ∃ us', H' a = some (.lst us') ∧ Reps M H' dx us' := fun {w' e' σ' H' dx} x o' hx => by
        obtain ⟨b, us', b1, b2, b3, b4⟩ := o'.mu hx
        have z := x.as0 (by simp)
        rw [b1] at z
        cases z
        exact ⟨us', b3, Reps.weak (fun c hc => .inl (by rw [x.mc]; exact hc)) _ _ b4⟩
      cases out with
      | nx e' =>
        simp only [resD] at e
        cases hx : muAt e' 0 with
        | none => rw [hx] at e; cases e
        | some dx =>
          rw [hx] at e
          cases e
          intro w' σ' H' x o'
          obtain ⟨us', h1, h2⟩ := at0 x o' (muAt_eq hx)
          exact q .non us' H' (fr x o') o'.tabs h1 h2 rfl
      | rt d e' =>
        simp only [resD] at e
        cases hx : muAt e' 0 with
        | none => rw [hx] at e; cases e
        | some dx =>
          rw [hx] at e
          cases e
          intro w' v σ' H' x o' rv
          obtain ⟨us', h1, h2⟩ := at0 x o' (muAt_eq hx)
          exact q v us' H' (fr x o') o'.tabs h1 h2 rv
      | ex x e' => cases e
      | bk _ => cases e
      | ct _ => cases e
  · cases e
end N

set_option Elab.async false
set_option linter.all false
set_option maxRecDepth 100000
set_option maxHeartbeats 4000000
/-! N13: what refuses a call: a lambda handed to «try: call() / except BadArgument as e: return e.name / return ''». -/
namespace LamX
open PySem PySem.Spec PyProof.Rows L2
section
variable {X : Cx}
/-- a name's value, told where the slot is there -/
def tVL (i : Nat) : TE := fun σ H Q => ∃ v, (i < σ.length → σ[i]? = some (some v)) ∧ Q v H
theorem pe_varL {i : Nat} {x : Str} {p : Pos} (hi : X.N[i]? = some x) (hv : Vis X.env.scope x) (hd : (x == ("__debug__" : Str)) = false := by decide) (hcd : (x == ("__classdict__" : Str)) = false := by decide) : PE X (.Name x p) (tVL i) :=
  ⟨fun pins s σ H Q I ⟨v, h, q⟩ => (pe_var (i := i) hi hv hd hcd).run pins s σ H Q I ⟨v, h (by
    rw [I.len]
    exact (List.getElem?_eq_some_iff.mp hi).1), q⟩⟩
def TTref (K : PySem.W.Frag) (CS : Addr) : (XK → Hp → VK → Prop) → Hp → VK → Prop := fun tl H Q =>
  tl (fun cls d H' => cls = .ref CS ∧ ∃ (dd : Addr) (nm : Str), d = some dd ∧ H' dd = some (.xd [(("name" : Str), .str nm)]) ∧ Q (.str nm) H') H (fun _ H' => Q (.str "") H')
theorem ref_gives {Ng : List Str} {x a : Str} {q : Str} {sg : Scope} {g CS fI : Addr} {cdg : Value} {j : Nat} {p1 p2 p3 p4 p5 p6 p7 p8 p9 p10 p11 : Pos} (T : PySem.BadX.Txt X.prog X.K X.mg CS fI) (hge : sg.names.lookup ("BadArgument" : Str) = some NameKind.globalImplicit) (hN : Ng = [a, ("e" : Str)]) (hnd : Ng.Nodup)
    (hle : sg.names.lookup ("e" : Str) = some NameKind.local) (hal : sg.names.lookup a = some NameKind.local) (had : (a == ("__debug__" : Str)) = false) :
    GivesTo X Ng x sg g cdg [.Try [.Expr (.Call (.Name a p1) [] [] p2) p3] [.ExceptHandler (some (.Name "BadArgument" p4)) (some "e") [.Return (some (.Attribute (.Name "e" p5) "name" p6)) p7] p8] [] [] p9, .Return (some (.Constant (.str "") j p10)) p11] a q (TTref X.K CS) := by
  intro f c' s H Q tl act hc h
  subst hN
  have hgl : Gl (cxOf C8.CX0 X.prog X.w X.K X.mg X.base [a, ("e" : Str)] x sg g cdg X.A X.stack s H C8.E0).nox "BadArgument" := hge
  refine ⟨_, pss_cons (ps_try_as (X := (cxOf C8.CX0 X.prog X.w X.K X.mg X.base [a, ("e" : Str)] x sg g cdg X.A X.stack s H C8.E0).nox) (i := 1) (c := .ref CS)
      (tb := fun W D σ H => ∃ Ech : XK, (∀ cls d σ' H', Ech cls d H' → W cls d σ' H') ∧ σ[0]? = some (some (.ref f)) ∧ H c' = some (CodeO c' q) ∧ tl Ech H (fun _ H1 => D.nx σ H1))
      (ts := fun a cls d => tRet (tXName CS a cls d (tVL 1)))
      rfl rfl hnd rfl hle ⟨hgl, by decide, .inl T.gC⟩ takes0 (fun W pn xe tk _ => ?_) (fun a oe cls d pn hz hf => pss_one (ps_ret (pe_xname T hz hf (pe_varL (i := 1) rfl (.inl hle)))))) (pss_one (ps_ret pe_str)), ?_⟩
  · refine ⟨fun pins s' σ H' D I h' => ?_⟩
    obtain ⟨Ech, hW, h1, h2, h3⟩ := h'
    have hp := act W pn xe Ech p1 p2 tk hW
    have hq := pss_one (ps_expr (pos := p3) hp)
    exact hq.run pins s' σ H' D I ⟨h1, h2, h3⟩
  · refine ⟨fun cls d H' => cls = .ref CS ∧ ∃ (dd : Addr) (nm : Str), d = some dd ∧ H' dd = some (.xd [(("name" : Str), .str nm)]) ∧ Q (.str nm) H', fun cls d σ' H' ⟨e1, dd, nm, e2, e3, e4⟩ => ?_, rfl, hc, h⟩
    subst e1
    refine ⟨true, T.te, fun _ a0 _ => ?_, fun z => by cases z⟩
    exact ⟨.ref a0, fun hl => by rw [List.getElem?_set_self (by rw [List.length_set] at hl; exact hl)], rfl, rfl, dd, .str nm, e2, e3, e4⟩
end
end LamX
namespace N
open PySem PySem.Spec PyProof.Rows L2
variable [TabOf]
section
variable {C : Addr} {ta : TA} {A : FA} {n : Nat} {G : List PyData → Option Res} {K : PySem.W.Frag}
omit [TabOf] in
/-- _law_refused(lambda: f(e, ..)) -/
def fRef (G : List PyData → Option Res) (A : FA) : FE := fun en => (A en).bind fun p => (G p.1).map fun r => match r with
  | .ok _ => (.str "", p.2)
  | .bad x => (.str x, p.2)
theorem ev_ref (h : EvA ta A) (hl : LenA A n) : Ev (LamX.tLam TabOf.T (LamX.TTref K C) fun E => tCall (spP C n G) [] E ta) (fRef G A) := fun w en σ H d en' o e Q q => by
  unfold fRef at e
  cases e1 : A en with
  | none => rw [e1] at e; cases e
  | some p =>
    rw [e1] at e
    obtain ⟨ds, e2⟩ := p
    simp only [Option.bind_some] at e
    cases e3 : G ds with
    | none => rw [e3] at e; cases e
    | some r =>
      rw [e3] at e
      refine ⟨o.tabs, fun H1 eN T1 => ?_⟩
      have f0 : Fr (fun _ => False) H H1 := fun b u eb _ t => eN b u eb t
      have o0 := o.fr0 f0 T1
      refine h w en σ H1 ds e2 o0 e1 _ fun vs H2 f2 o2 r2 => ?_
      show spP C n G (vs ++ []) H2 _ _
      rw [List.append_nil]
      refine ⟨w.M, ds, r, by rw [r2.length, hl _ _ _ e1], o2.dom, o2.tabs, r2, e3, ?_⟩
      have fr : ∀ {H3 : Hp}, Fr (fun _ => False) H2 H3 → Fr w.M H H3 := fun f => ((f0.weak fun _ z => z.elim).trans f2).trans (f.weak fun _ z => z.elim)
      cases r with
      | ok d' =>
        cases e
        exact fun v H3 f t rv => q _ H3 (fr f) (o2.fr0 f t) rfl
      | bad x =>
        cases e
        exact fun dd H3 f t hd => ⟨rfl, dd, x, rfl, hd, q _ H3 (fr f) (o2.fr0 f t) rfl⟩
end
end N

set_option Elab.async false
set_option linter.all false
set_option maxRecDepth 100000
set_option maxHeartbeats 4000000
/-! N14: chains of comparisons; comprehensions of two clauses. -/
namespace L2
open PySem PySem.Spec PyProof.Rows
section
variable {X : Cx} {a b c d : Expr} {ta tb tc td : TE} {pos : Pos}
/-- a op1 b op2 c op3 d -/
def tChain3 (r r' r'' : R2) (ta tb tc td : TE) : TE := fun σ H Q => ta σ H fun x H1 => tb σ H1 fun y H2 => r x y H2 fun z H3 => ∃ k, z = .bl k ∧
  (if k = true then tc σ H3 fun w' H4 => r' y w' H4 fun z2 H5 => ∃ k2, z2 = .bl k2 ∧ (if k2 = true then td σ H5 fun u' H6 => r'' w' u' H6 Q else Q (.bl false) H5) else Q (.bl false) H3)
theorem pe_chain3 {op op' op'' : CmpOp} {r r' r'' : R2} (ho : OpR X (compareOp op) r) (ho' : OpR X (compareOp op') r') (ho'' : OpR X (compareOp op'') r'') (ha : PE X a ta) (hb : PE X b tb) (hc : PE X c tc) (hd : PE X d td)
    (hm : lastMarks [op, op', op''] [b, c, d] = false := by with_unfolding_all rfl) : PE X (.Compare a [op, op', op''] [b, c, d] pos) (tChain3 r r' r'' ta tb tc td) := by
  refine ⟨fun pins s σ H Q I h => ?_⟩
  refine Compare_chain (thn (ha.run pins s σ H _ I h) fun v s1 ⟨x, H1, I1, r1, q1⟩ => chain_link (thn (hb.run pins s1 σ H1 _ I1 q1) fun u s2 ⟨y, H2, I2, r2, q2⟩ =>
    thn (ho pins s2 σ H2 x y v u _ I2 r1 r2 q2) fun d s3 ⟨z, H3, I3, r3, k, e, q3⟩ => ?_)) hm
  subst e
  cases r3
  refine wpAny_truthy_bool ?_
  cases k with
  | false => exact ite_ff ⟨.bl false, H3, I3, rfl, q3⟩
  | true =>
    refine ite_tt (chain_link (thn (hc.run pins s3 σ H3 _ I3 q3) fun w' s4 ⟨z', H4, I4, r4, q4⟩ => thn (ho' pins s4 σ H4 y z' u w' _ I4 r2 r4 q4) fun d2 s5 ⟨z2, H5, I5, r5, k2, e2, q5⟩ => ?_))
    subst e2
    cases r5
    refine wpAny_truthy_bool ?_
    cases k2 with
    | false => exact ite_ff ⟨.bl false, H5, I5, rfl, q5⟩
    | true => exact ite_tt (chain_last (thn (hd.run pins s5 σ H5 _ I5 q5) fun t' s6 ⟨u', H6, I6, r6, q6⟩ => ho'' pins s6 σ H6 z' u' w' t' Q I6 r4 r6 q6))
end
end L2
namespace N
open PySem PySem.Spec PyProof.Rows L2
variable [TabOf]
section
variable {ta tb tc td : TE} {Fa Fb Fc Fd : FE} {r r' r'' : R2} {g g' g'' : PyData → PyData → Option PyData}
omit [TabOf] in
def fChain (g g' : PyData → PyData → Option PyData) (Fa Fb Fc : FE) : FE := fun en => (Fa en).bind fun p => (Fb p.2).bind fun q => match g p.1 q.1 with
  | some (.bool true) => (Fc q.2).bind fun s => (g' q.1 s.1).map fun z => (z, s.2)
  | some (.bool false) => some (.bool false, q.2)
  | _ => none
theorem ev_chain (ha : Ev ta Fa) (hb : Ev tb Fb) (hc : Ev tc Fc) (hr : RD2 r g) (hr' : RD2 r' g') : Ev (tChain r r' ta tb tc) (fChain g g' Fa Fb Fc) := fun w en σ H d en' o e Q q => by
  unfold fChain at e
  cases e1 : Fa en with
  | none => rw [e1] at e; cases e
  | some p =>
    rw [e1] at e
    simp only [Option.bind_some] at e
    cases e2 : Fb p.2 with
    | none => rw [e2] at e; cases e
    | some p2 =>
      rw [e2] at e
      simp only [Option.bind_some] at e
      refine ha w en σ H p.1 p.2 o e1 _ fun x H1 f1 o1 r1 => ?_
      refine hb w p.2 σ H1 p2.1 p2.2 o1 e2 _ fun y H2 f2 o2 r2 => ?_
      split at e
      · rename_i hg
        refine hr w.M H2 x y _ _ _ o2.dom (Rep.fr f2 _ _ r1) r2.t hg _ fun v H3 s3 r3 => ?_
        have r3 : v = .bl true := r3
        subst r3
        refine ⟨true, rfl, ?_⟩
        simp only [if_true]
        cases e4 : Fc p2.2 with
        | none => rw [e4] at e; cases e
        | some p3 =>
          rw [e4] at e
          simp only [Option.bind_some] at e
          cases e5 : g' p2.1 p3.1 with
          | none => rw [e5] at e; cases e
          | some z =>
            rw [e5] at e
            cases e
            refine hc w _ σ H3 p3.1 p3.2 (o2.same s3) e4 _ fun u H4 f4 o4 r4 => ?_
            exact hr' w.M H4 y u _ _ _ o4.dom (Rep.fr f4 _ _ (Rep.fr (Fr.of s3) _ _ r2)) r4.t e5 _ fun v5 H5 s5 r5 => q v5 H5 ((((f1.trans f2).trans (Fr.of s3)).trans f4).trans (Fr.of s5)) (o4.same s5) r5
      · rename_i hg
        cases e
        refine hr w.M H2 x y _ _ _ o2.dom (Rep.fr f2 _ _ r1) r2.t hg _ fun v H3 s3 r3 => ?_
        have r3 : v = .bl false := r3
        subst r3
        refine ⟨false, rfl, ?_⟩
        simp only [Bool.false_eq_true, if_false]
        exact q _ H3 ((f1.trans f2).trans (Fr.of s3)) (o2.same s3) rfl
      · cases e
omit [TabOf] in
def fChain3 (g g' g'' : PyData → PyData → Option PyData) (Fa Fb Fc Fd : FE) : FE := fun en => (Fa en).bind fun p => (Fb p.2).bind fun q => match g p.1 q.1 with
  | some (.bool true) => (Fc q.2).bind fun s => match g' q.1 s.1 with
    | some (.bool true) => (Fd s.2).bind fun t => (g'' s.1 t.1).map fun z => (z, t.2)
    | some (.bool false) => some (.bool false, s.2)
    | _ => none
  | some (.bool false) => some (.bool false, q.2)
  | _ => none
theorem ev_chain3 (ha : Ev ta Fa) (hb : Ev tb Fb) (hc : Ev tc Fc) (hd : Ev td Fd) (hr : RD2 r g) (hr' : RD2 r' g') (hr'' : RD2 r'' g'') : Ev (tChain3 r r' r'' ta tb tc td) (fChain3 g g' g'' Fa Fb Fc Fd) := fun w en σ H d en' o e Q q => by
  unfold fChain3 at e
  cases e1 : Fa en with
  | none => rw [e1] at e; cases e
  | some p =>
    rw [e1] at e
    simp only [Option.bind_some] at e
    cases e2 : Fb p.2 with
    | none => rw [e2] at e; cases e
    | some p2 =>
      rw [e2] at e
      simp only [Option.bind_some] at e
      refine ha w en σ H p.1 p.2 o e1 _ fun x H1 f1 o1 r1 => ?_
      refine hb w p.2 σ H1 p2.1 p2.2 o1 e2 _ fun y H2 f2 o2 r2 => ?_
      split at e
      · rename_i hg
        refine hr w.M H2 x y _ _ _ o2.dom (Rep.fr f2 _ _ r1) r2.t hg _ fun v H3 s3 r3 => ?_
        have r3 : v = .bl true := r3
        subst r3
        refine ⟨true, rfl, ?_⟩
        simp only [if_true]
        cases e4 : Fc p2.2 with
        | none => rw [e4] at e; cases e
        | some p3 =>
          rw [e4] at e
          simp only [Option.bind_some] at e
          refine hc w _ σ H3 p3.1 p3.2 (o2.same s3) e4 _ fun u H4 f4 o4 r4 => ?_
          have fr4 : Fr w.M H H4 := ((f1.trans f2).trans (Fr.of s3)).trans f4
          split at e
          · rename_i hg'
            refine hr' w.M H4 y u _ _ _ o4.dom (Rep.fr f4 _ _ (Rep.fr (Fr.of s3) _ _ r2)) r4.t hg' _ fun v5 H5 s5 r5 => ?_
            have r5 : v5 = .bl true := r5
            subst r5
            refine ⟨true, rfl, ?_⟩
            simp only [if_true]
            cases e6 : Fd p3.2 with
            | none => rw [e6] at e; cases e
            | some p4 =>
              rw [e6] at e
              simp only [Option.bind_some] at e
              cases e7 : g'' p3.1 p4.1 with
              | none => rw [e7] at e; cases e
              | some z =>
                rw [e7] at e
                cases e
                refine hd w _ σ H5 p4.1 p4.2 (o4.same s5) e6 _ fun u6 H6 f6 o6 r6 => ?_
                exact hr'' w.M H6 u u6 _ _ _ o6.dom (Rep.fr f6 _ _ (Rep.fr (Fr.of s5) _ _ r4)) r6.t e7 _ fun v7 H7 s7 r7 => q v7 H7 (((fr4.trans (Fr.of s5)).trans f6).trans (Fr.of s7)) (o6.same s7) r7
          · rename_i hg'
            cases e
            refine hr' w.M H4 y u _ _ _ o4.dom (Rep.fr f4 _ _ (Rep.fr (Fr.of s3) _ _ r2)) r4.t hg' _ fun v5 H5 s5 r5 => ?_
            have r5 : v5 = .bl false := r5
            subst r5
            refine ⟨false, rfl, ?_⟩
            simp only [Bool.false_eq_true, if_false]
            exact q _ H5 (fr4.trans (Fr.of s5)) (o4.same s5) rfl
          · cases e
      · rename_i hg
        cases e
        refine hr w.M H2 x y _ _ _ o2.dom (Rep.fr f2 _ _ r1) r2.t hg _ fun v H3 s3 r3 => ?_
        have r3 : v = .bl false := r3
        subst r3
        refine ⟨false, rfl, ?_⟩
        simp only [Bool.false_eq_true, if_false]
        exact q _ H3 ((f1.trans f2).trans (Fr.of s3)) (o2.same s3) rfl
      · cases e
end
/-! ### two clauses -/
theorem wipe_wipe {σ σ2 : L2.St} {vs vs1 : List Nat} (h1 : ∀ i ∈ vs1, i ∈ vs) (h : L2.wipe σ2 vs = L2.wipe σ vs) : L2.wipe (L2.wipe σ2 vs1) vs = L2.wipe σ vs := by
  rw [← h]
  refine List.ext_getElem? fun j => ?_
  by_cases hl : j < σ2.length
  · by_cases hj : j ∈ vs
    · rw [wipe_in hj (by rw [wipe_length]; exact hl), wipe_in hj hl]
    · rw [wipe_out hj, wipe_out hj, wipe_out (fun z => hj (h1 _ z))]
  · rw [List.getElem?_eq_none (by rw [wipe_length, wipe_length]; omega), List.getElem?_eq_none (by rw [wipe_length]; omega)]
theorem wipe_idem {σ : L2.St} (vs : List Nat) : L2.wipe (L2.wipe σ vs) vs = L2.wipe σ vs := wipe_wipe (fun _ h => h) rfl
theorem hold_Meq {w : Wd} {D : Addr} {ov ov' : List V} : (w.hold D ov').M = (w.hold D ov).M := by
  funext a
  exact propext (Wd.hold_M.trans Wd.hold_M.symm)
theorem inner_loop {wi1 : TI} {g1 : TG} {tt1 : TT} {te : TE} {vs1 ts1 : List Nat} {I1 : FA} {tg1 : FG} {ft1 : FB} {fe : FE} (hI : EvI wi1 I1) (hG : EvG g1 tg1 ts1) (hT : EvB tt1 ft1) (hE : Ev te fe) (hts : ∀ i ∈ ts1, i ∈ vs1)
    {W0 : Wd} {D : Addr} {ov : List V} {od : List PyData} {eA e0 eF : En} {σ2 : L2.St} {H3 : Hp} {ds1 rest : List PyData} (o : Ok (W0.hold D ov) eA σ2 H3) (nh : ∀ q ∈ W0.held, q.1 ≠ D) (ri : Reps (W0.hold D ov).M H3 od ov) (e1 : I1 eA = some (ds1, e0)) (ho : ownOk e0 vs1 = true)
    (e2 : lcGo tg1 ft1 fe vs1 ds1 (wipeE e0 vs1) = some (rest, eF)) (hz : od.length + rest.length ≤ 100000) {Nx : Hp → Prop}
    (hN : ∀ H' ov', Ok (W0.hold D ov') eF (L2.wipe σ2 vs1) H' → Reps (W0.hold D ov').M H' (od ++ rest) ov' → Fr (W0.hold D ov).M H3 H' → Nx H') :
    wi1 σ2 H3 fun J1 H4 => ∃ W1 : Nat → Nat → Hp → Prop, (∃ m, W1 0 m H4) ∧ ∀ j k H, W1 j k H →
      (J1.stop j H ∧ Nx H) ∨ (J1.go j H ∧ ∃ Nx1 : Hp → Prop, (∀ H', Nx1 H' → ∃ k', k' < k ∧ W1 (j + 1) k' H') ∧ ∀ x H', J1.yld j H x H' → g1 x (L2.wipe σ2 vs1) H' fun σ3 H5 => L2.wipe σ3 vs1 = L2.wipe σ2 vs1 ∧ tt1 σ3 H5 fun b H6 =>
        if b = true then te σ3 H6 fun y H7 => ∃ acc, H7 D = some (.lst acc) ∧ acc.length < sizeLine ∧ Nx1 (upd H7 D (.lst (acc ++ [y]))) else Nx1 H6) := by
  refine hI _ eA σ2 H3 ds1 e0 o e1 _ fun J sd sv H4 f4 o4 rs hs hz1 => ?_
  have oA : Ok ((W0.kp sd sv).hold D ov) e0 σ2 H4 := o4.kp rs
  have as0 := ownOk_as o4 ho
  refine ⟨fun i m H' => i + m = ds1.length ∧ ∃ (eni : En) (od' : List PyData) (ov' : List V) (rest' : List PyData), Ok ((W0.kp sd sv).hold D ov') eni (L2.wipe σ2 vs1) H' ∧ Reps (W0.hold D ov').M H' od' ov' ∧ Fr (W0.hold D ov).M H3 H' ∧ lcGo tg1 ft1 fe vs1 (ds1.drop i) eni = some (rest', eF) ∧ od' ++ rest' = od ++ rest,
    ⟨ds1.length, by omega, wipeE e0 vs1, od, ov, rest, oA.wipe vs1 as0, Reps.fr f4 _ _ ri, f4, by rw [List.drop_zero]; exact e2, rfl⟩, ?_⟩
  rintro i m H' ⟨him, eni, od', ov', rest', oi, ri', fi, hgo, hout⟩
  have oi' := oi
  have rsi : Rep (W0.hold D ov').M H' sd sv := oi.keep (sd, sv) List.mem_cons_self
  obtain ⟨sg, ss⟩ := hs (W0.hold D ov').M H' rsi
  have lenO : od'.length + rest'.length ≤ 100000 := by
    have z := congrArg List.length hout
    rw [List.length_append, List.length_append] at z
    omega
  by_cases hi : i < ds1.length
  · obtain ⟨dd, hdd⟩ : ∃ dd, ds1[i]? = some dd := ⟨ds1[i], List.getElem?_eq_getElem hi⟩
    obtain ⟨go, yl⟩ := sg i dd hdd
    have hdrop : ds1.drop i = dd :: ds1.drop (i + 1) := by
      rw [List.drop_eq_getElem_cons hi]
      rw [List.getElem?_eq_getElem hi] at hdd
      cases hdd
      rfl
    rw [hdrop] at hgo
    have hgo : (tg1 dd eni).bind (fun e1 => (ft1 e1).bind fun q => if q.1 = true then (fe q.2).bind fun y => (lcGo tg1 ft1 fe vs1 (ds1.drop (i + 1)) (wipeE y.2 vs1)).map fun r => (y.1 :: r.1, r.2) else lcGo tg1 ft1 fe vs1 (ds1.drop (i + 1)) (wipeE q.2 vs1)) = some (rest', eF) := hgo
    cases k1 : tg1 dd eni with
    | none => rw [k1] at hgo; cases hgo
    | some ea =>
      rw [k1] at hgo
      simp only [Option.bind_some] at hgo
      cases k2 : ft1 ea with
      | none => rw [k2] at hgo; cases hgo
      | some qb =>
        rw [k2] at hgo
        obtain ⟨bb, eb⟩ := qb
        simp only [Option.bind_some] at hgo
        refine .inr ⟨go, fun H' => ∃ m', m' < m ∧ (i + 1 + m' = ds1.length ∧ ∃ (eni : En) (od' : List PyData) (ov' : List V) (rest' : List PyData), Ok ((W0.kp sd sv).hold D ov') eni (L2.wipe σ2 vs1) H' ∧ Reps (W0.hold D ov').M H' od' ov' ∧ Fr (W0.hold D ov).M H3 H' ∧ lcGo tg1 ft1 fe vs1 (ds1.drop (i + 1)) eni = some (rest', eF) ∧ od' ++ rest' = od ++ rest), fun H' h => h, fun x H2 hy => ?_⟩
        obtain ⟨eH, rx⟩ := yl x H2 hy
        subst eH
        refine hG _ eni (L2.wipe σ2 vs1) H2 dd x ea oi' rx k1 _ fun σ3 hw o2 => ?_
        have hw2 : L2.wipe σ3 vs1 = L2.wipe σ2 vs1 := by
          rw [hw vs1 hts, wipe_idem]
        refine ⟨hw2, ?_⟩
        refine hT _ ea σ3 H2 bb eb o2 k2 _ fun H5 f5 o5 => ?_
        have em : (W0.hold D ov').M = (W0.hold D ov).M := hold_Meq
        have f5 : Fr (W0.hold D ov).M H2 H5 := by
          rw [← em]
          exact f5
        cases bb with
        | true =>
          simp only [if_true] at hgo ⊢
          cases k3 : fe eb with
          | none => rw [k3] at hgo; cases hgo
          | some qy =>
            rw [k3] at hgo
            obtain ⟨yd, ey⟩ := qy
            simp only [Option.bind_some] at hgo
            cases k4 : lcGo tg1 ft1 fe vs1 (ds1.drop (i + 1)) (wipeE ey vs1) with
            | none => rw [k4] at hgo; cases hgo
            | some rr =>
              rw [k4] at hgo
              obtain ⟨rest2, eF'⟩ := rr
              cases hgo
              refine hE _ eb σ3 H5 yd ey o5 k3 _ fun y H6 f6 o6 r6 => ?_
              have f6 : Fr (W0.hold D ov).M H5 H6 := by
                rw [← em]
                exact f6
              have hHD : H6 D = some (.lst ov') := o6.held (D, ov') List.mem_cons_self
              have mD : (W0.hold D ov).M D := Wd.hold_M.mpr (.inr rfl)
              have lov : ov'.length < 100000 := by
                rw [ri'.length]
                rw [List.length_cons] at lenO
                omega
              refine ⟨ov', hHD, Nat.lt_trans lov (by decide : 100000 < sizeLine), m - 1, by omega, by omega, wipeE ey vs1, od' ++ [yd], ov' ++ [y], rest2, ?_, ?_, ?_, k4, ?_⟩
              · have o7 := o6.grow (w := W0.kp sd sv) (vs' := ov' ++ [y]) nh
                have o8 := o7.wipe vs1 as0
                rw [hw2] at o8
                exact o8
              · rw [hold_Meq (ov := ov)]
                rw [em] at ri'
                refine Reps.append ?_ (.cons ?_ .nil)
                · exact Reps.fr (fr_upd mD) _ _ (Reps.fr (f5.trans f6) _ _ ri')
                · have r6 : Rep (W0.hold D ov).M H6 yd y := by
                    rw [← em]
                    exact r6
                  exact Rep.fr (fr_upd mD) _ _ r6
              · exact ((fi.trans f5).trans f6).trans (fr_upd mD)
              · rw [List.append_assoc]
                exact hout
        | false =>
          simp only [Bool.false_eq_true, if_false] at hgo ⊢
          refine ⟨m - 1, by omega, by omega, wipeE eb vs1, od', ov', rest', ?_, ?_, fi.trans f5, hgo, hout⟩
          · have o8 := o5.wipe vs1 as0
            rw [hw2] at o8
            exact o8
          · rw [em] at ri' ⊢
            exact Reps.fr f5 _ _ ri'
  · refine .inl ⟨ss i (by omega), ?_⟩
    rw [List.drop_of_length_le (by omega)] at hgo
    cases hgo
    rw [List.append_nil] at hout
    subst hout
    exact hN H' ov' (Ok.unkp (w := W0.hold D ov') oi).1 ri' fi
omit [TabOf] in
def lc2Go (tg : FG) (ft : FB) (I1 : FA) (tg1 : FG) (ft1 : FB) (fe : FE) (vs vs1 : List Nat) : List PyData → En → Option (List PyData × En)
  | [], e => some ([], e)
  | d :: ds, e => (tg d e).bind fun e1 => (ft e1).bind fun q => if q.1 = true then (I1 q.2).bind fun p1 => if ownOk p1.2 vs1 = true then (lcGo tg1 ft1 fe vs1 p1.1 (wipeE p1.2 vs1)).bind fun r => (lc2Go tg ft I1 tg1 ft1 fe vs vs1 ds (wipeE r.2 vs)).map fun s => (r.1 ++ s.1, s.2) else none
    else lc2Go tg ft I1 tg1 ft1 fe vs vs1 ds (wipeE q.2 vs)
omit [TabOf] in
def fLc2 (I : FA) (tg : FG) (ft : FB) (I1 : FA) (tg1 : FG) (ft1 : FB) (fe : FE) (vs vs1 : List Nat) : FE := fun en => (I en).bind fun p => if ownOk p.2 vs = true then (lc2Go tg ft I1 tg1 ft1 fe vs vs1 p.1 (wipeE p.2 vs)).bind fun r => if r.1.length ≤ 100000 then some (.list r.1, restore r.2 p.2 vs) else none else none
theorem ef_lc2 {wi wi1 : TI} {g g1 : TG} {tt tt1 : TT} {te : TE} {vs vs1 ts ts1 : List Nat} {I I1 : FA} {tg tg1 : FG} {ft ft1 : FB} {fe : FE} (hI : EvI wi I) (hG : EvG g tg ts) (hT : EvB tt ft) (hI1 : EvI wi1 I1) (hG1 : EvG g1 tg1 ts1) (hT1 : EvB tt1 ft1) (hE : Ev te fe)
    (hts : ∀ i ∈ ts, i ∈ vs := by decide) (hts1 : ∀ i ∈ ts1, i ∈ vs1 := by decide) (hvs : ∀ i ∈ vs1, i ∈ vs := by decide) : EvF (tLc2 wi g tt wi1 g1 tt1 te vs vs1) (fLc2 I tg ft I1 tg1 ft1 fe vs vs1) := fun w en σ H d en' o e => by
  unfold fLc2 at e
  cases e1 : I en with
  | none => rw [e1] at e; cases e
  | some p =>
    rw [e1] at e
    obtain ⟨ds, e0⟩ := p
    simp only [Option.bind_some] at e
    by_cases ho : ownOk e0 vs = true
    · simp only [if_pos ho] at e
      cases e2 : lc2Go tg ft I1 tg1 ft1 fe vs vs1 ds (wipeE e0 vs) with
      | none => rw [e2] at e; cases e
      | some r =>
        rw [e2] at e
        obtain ⟨out, eF⟩ := r
        simp only [Option.bind_some] at e
        by_cases hzo : out.length ≤ 100000
        · rw [if_pos hzo] at e
          cases e
          refine ⟨out, rfl, fun Q q => ?_⟩
          refine hI w en σ H ds e0 o e1 _ fun J sd sv H1 f1 o1 rs hs hz => ?_
          intro D hD
          have nh : ∀ q ∈ w.held, q.1 ≠ D := fun q hq z => by
            have z2 := o1.held q hq
            rw [z, hD] at z2
            cases z2
          have oA : Ok ((w.kps (keepAll e0 σ vs)).kp sd sv) e0 σ H1 := (o1.kps fun p hp => keepAll_rep o1 hp).kp rs
          have as0 := ownOk_as o1 ho
          refine ⟨fun i m H' => i + m = ds.length ∧ ∃ (eni : En) (od : List PyData) (ov : List V) (rest : List PyData), Ok (((w.kps (keepAll e0 σ vs)).kp sd sv).hold D ov) eni (L2.wipe σ vs) H' ∧ Reps (w.hold D ov).M H' od ov ∧ Fr w.M H1 H' ∧ lc2Go tg ft I1 tg1 ft1 fe vs vs1 (ds.drop i) eni = some (rest, eF) ∧ od ++ rest = out,
            ⟨ds.length, by omega, wipeE e0 vs, [], [], out, ?_, .nil, Fr.of (same_upd hD), by rw [List.drop_zero]; exact e2, rfl⟩, ?_⟩
          · exact (oA.lay hD []).wipe vs as0
          · rintro i m H' ⟨him, eni, od, ov, rest, oi, ri, fi, hgo, hout⟩
            have oi' := oi
            have rsi : Rep (w.hold D ov).M H' sd sv := oi.keep (sd, sv) List.mem_cons_self
            obtain ⟨sg, ss⟩ := hs (w.hold D ov).M H' rsi
            have lenO : od.length + rest.length ≤ 100000 := by
              have z := congrArg List.length hout
              rw [List.length_append] at z
              omega
            by_cases hi : i < ds.length
            · obtain ⟨dd, hdd⟩ : ∃ dd, ds[i]? = some dd := ⟨ds[i], List.getElem?_eq_getElem hi⟩
              obtain ⟨go, yl⟩ := sg i dd hdd
              have hdrop : ds.drop i = dd :: ds.drop (i + 1) := by
                rw [List.drop_eq_getElem_cons hi]
                rw [List.getElem?_eq_getElem hi] at hdd
                cases hdd
                rfl
              rw [hdrop] at hgo
              have hgo : (tg dd eni).bind (fun e1 => (ft e1).bind fun q => if q.1 = true then (I1 q.2).bind fun p1 => if ownOk p1.2 vs1 = true then (lcGo tg1 ft1 fe vs1 p1.1 (wipeE p1.2 vs1)).bind fun r => (lc2Go tg ft I1 tg1 ft1 fe vs vs1 (ds.drop (i + 1)) (wipeE r.2 vs)).map fun s => (r.1 ++ s.1, s.2) else none
                else lc2Go tg ft I1 tg1 ft1 fe vs vs1 (ds.drop (i + 1)) (wipeE q.2 vs)) = some (rest, eF) := hgo
              cases k1 : tg dd eni with
              | none => rw [k1] at hgo; cases hgo
              | some ea =>
                rw [k1] at hgo
                simp only [Option.bind_some] at hgo
                cases k2 : ft ea with
                | none => rw [k2] at hgo; cases hgo
                | some qb =>
                  rw [k2] at hgo
                  obtain ⟨bb, eb⟩ := qb
                  simp only [Option.bind_some] at hgo
                  refine .inr ⟨go, fun H' => ∃ m', m' < m ∧ (i + 1 + m' = ds.length ∧ ∃ (eni : En) (od : List PyData) (ov : List V) (rest : List PyData), Ok (((w.kps (keepAll e0 σ vs)).kp sd sv).hold D ov) eni (L2.wipe σ vs) H' ∧ Reps (w.hold D ov).M H' od ov ∧ Fr w.M H1 H' ∧ lc2Go tg ft I1 tg1 ft1 fe vs vs1 (ds.drop (i + 1)) eni = some (rest, eF) ∧ od ++ rest = out), fun H' h => h, fun x H2 hy => ?_⟩
                  obtain ⟨eH, rx⟩ := yl x H2 hy
                  subst eH
                  refine hG _ eni (L2.wipe σ vs) H2 dd x ea oi' rx k1 _ fun σ2 hw o2 => ?_
                  have hw2 : L2.wipe σ2 vs = L2.wipe σ vs := by
                    rw [hw vs hts, wipe_idem]
                  refine ⟨hw2, ?_⟩
                  have asW : ∀ (ov : List V) i, i ∈ vs → ((((w.kps (keepAll e0 σ vs)).kp sd sv).hold D ov)).as[i]? = some [] := fun _ i hi => as0 i hi
                  refine hT _ ea σ2 H2 bb eb o2 k2 _ fun H3 f3 o3 => ?_
                  have nD : ∀ {b : Addr} {u : HO}, H1 b = some u → b ≠ D := fun {b u} eb z => by
                    rw [z, hD] at eb
                    cases eb
                  have f3' : Fr w.M H1 H3 := fun b u eb n t => f3 b u (fi b u eb n t) (fun z => by
                    rcases Wd.hold_M.mp z with z | z
                    · exact n z
                    · exact nD eb z) t
                  cases bb with
                  | true =>
                    simp only [if_true] at hgo ⊢
                    cases k3 : I1 eb with
                    | none => rw [k3] at hgo; cases hgo
                    | some p1 =>
                      rw [k3] at hgo
                      obtain ⟨ds1, e01⟩ := p1
                      simp only [Option.bind_some] at hgo
                      by_cases ho1 : ownOk e01 vs1 = true
                      · rw [if_pos ho1] at hgo
                        cases k4 : lcGo tg1 ft1 fe vs1 ds1 (wipeE e01 vs1) with
                        | none => rw [k4] at hgo; cases hgo
                        | some r1 =>
                          rw [k4] at hgo
                          obtain ⟨rest1, eF1⟩ := r1
                          simp only [Option.bind_some] at hgo
                          cases k5 : lc2Go tg ft I1 tg1 ft1 fe vs vs1 (ds.drop (i + 1)) (wipeE eF1 vs) with
                          | none => rw [k5] at hgo; cases hgo
                          | some rr =>
                            rw [k5] at hgo
                            obtain ⟨rest2, eF'⟩ := rr
                            cases hgo
                            rw [List.length_append] at lenO
                            refine inner_loop hI1 hG1 hT1 hE hts1 (W0 := (w.kps (keepAll e0 σ vs)).kp sd sv) (od := od) o3 nh (Reps.fr f3 _ _ ri) k3 ho1 k4 (by omega) fun H' ov' oe re fe' => ?_
                            refine ⟨m - 1, by omega, by omega, wipeE eF1 vs, od ++ rest1, ov', rest2, ?_, re, ?_, k5, ?_⟩
                            · have o8 := oe.wipe vs (asW ov')
                              rw [wipe_wipe hvs hw2] at o8
                              exact o8
                            · exact fun b u eb n t => fe' b u (f3' b u eb n t) (fun z => by
                                rcases Wd.hold_M.mp z with z | z
                                · exact n z
                                · exact nD eb z) t
                            · rw [List.append_assoc]
                              exact hout
                      · rw [if_neg ho1] at hgo
                        cases hgo
                  | false =>
                    simp only [Bool.false_eq_true, if_false] at hgo ⊢
                    refine ⟨m - 1, by omega, by omega, wipeE eb vs, od, ov, rest, ?_, ?_, f3', hgo, hout⟩
                    · have o6 := o3.wipe vs (asW _)
                      rw [hw2] at o6
                      exact o6
                    · exact Reps.fr f3 _ _ ri
            · refine .inl ⟨ss i (by omega), ?_⟩
              rw [List.drop_of_length_le (by omega)] at hgo
              cases hgo
              rw [List.append_nil] at hout
              subst hout
              have oF : Ok (((w.hold D ov).kps (keepAll e0 σ vs)).kp sd sv) eF (L2.wipe σ vs) H' := oi
              obtain ⟨oW, kk⟩ := oF.unkp.1.unkps
              exact q D ov H' (o1.dom.free hD) (f1.trans fi) (oW.restore o1 rfl ho kk) ri
        · rw [if_neg hzo] at e
          cases e
    · simp only [if_neg ho] at e
      cases e
end N

set_option Elab.async false
set_option linter.all false
set_option maxRecDepth 100000
set_option maxHeartbeats 4000000
/-! N15: the head: what is looked at behind the top; the law's own error by a Bool; the end. -/
namespace PySem
namespace BadX
open PySem.W PySem.Calls PyProof.Rows PySem.HandSPX
def clsB (K : Frag) (C : Addr) : Bool := match K.lookup C with
  | some ⟨.type "type", _, .cls cd, sl⟩ => (match cd.mro, sl.toList with
    | .ref C' :: bm, [_, _, _, _, some (.builtin n), _] => C' == C && n == "ValueError.__new__" && !cd.hasDel && cd.hasDict && refsVE bm
    | _, _ => false)
  | _ => false
theorem clsB_ok {K : Frag} {C : Addr} (q : clsB K C = true) : ∃ nm q N bs bm sn sub ab col dd k0 k1 k2 k3 k5, K.lookup C = some (excClassObj nm q C N bs bm true sn sub ab col dd k0 k1 k2 k3 k5 "ValueError.__new__") ∧ refsVE bm = true := by
  unfold clsB at q
  split at q
  · rename_i dd cd sl ho
    split at q
    · rename_i C' bm k0 k1 k2 k3 n k5 hm hs
      simp only [Bool.and_eq_true, beq_iff_eq, Bool.not_eq_true'] at q
      obtain ⟨⟨⟨⟨rfl, rfl⟩, hdel⟩, hdct⟩, ht⟩ := q
      obtain ⟨nm, bs, mro, ns, qn, hd, sn, sub, ab, col, del⟩ := cd
      dsimp only at hm hdel hdct
      subst hm hdel hdct
      have hsl : sl = #[k0, k1, k2, k3, some (.builtin "ValueError.__new__"), k5] := by
        obtain ⟨l⟩ := sl
        simp only at hs
        rw [hs]
      subst hsl
      exact ⟨_, _, _, _, _, _, _, _, _, _, _, _, _, _, _, ho, ht⟩
    · cases q
  · cases q
/-- __init__'s object -/
def fnC (K : Frag) (file : Str) (C : Addr) : List (Str × Addr) → Value → Value → Value → Bool
  | [(x, cc)], .ref cda, .none, .none => x == ("__class__" : Str) && codeIn K (.ref cda) "BadArgument.__init__" &&
    (match K.lookup cda with
      | some ⟨_, _, .fields vs, _⟩ => (match (vs[2]? : Option Value) with
        | some (.str f _) => file == f
        | _ => false)
      | _ => false) &&
    (match K.lookup cc with
      | some ⟨_, _, .cell (some (.ref D)), _⟩ => D == C
      | _ => false)
  | _, _, _, _ => false
def fnB (K : Frag) (file : Str) (C fI : Addr) : Bool := match K.lookup fI with
  | some ⟨_, _, .func fd, _⟩ => fnC K file C fd.closure fd.code fd.defaults fd.kwdefaults
  | _ => false
abbrev FnI : Type := Option (Str × Str × Arguments × FuncBody × Scope × Addr × Addr)
def fnI (K : Frag) (fI : Addr) : FnI := match K.lookup fI with
  | some ⟨_, _, .func fd, _⟩ => some (fd.name, fd.qualname, fd.params, fd.body, fd.scope, fd.globals, fd.builtins)
  | _ => none
def fnV : FnI := some ("__init__", "BadArgument.__init__", iA, .stmts iB, iS, mainGlobals, builtinsNs)
/-- all of it, C the class, fI its __init__ -/
def badB (prog : Program) (K : Frag) (C fI : Addr) : Bool :=
  clsB K C && (fnB K prog.main.file C fI && (decide (findIn K (.ref C) "__setattr__" = some (some (.builtin "object.__setattr__"))) && (decide (findIn K (.ref C) "__getattribute__" = some (some (.builtin "BaseException.__getattribute__"))) &&
  (decide (findIn K (.ref C) "__getattr__" = some none) && (decide (findIn K (.ref C) "name" = some none) && (decide (findIn K (.ref C) "__init__" = some (some (.ref fI))) && (decide (typeIn K (.ref fI) = some (.type "function")) &&
  (keepIn K (.ref C) && (decide (subIn K (.ref C) (.type "BaseException") = some true) && (decide (subIn K (.ref C) (.type "ValueError") = some true) && (decide (typeIn K (.ref C) = some (.type "type")) && (hasDictIn K C &&
  (decide (exmOne K (.ref C) (.ref C) = some true) && (decide (mroIn K C (.ref C) = some true) && (decide (ks_superIn K C C "__init__" = some (some (.builtin "ValueError.__init__"))) && (decide (nsIn K cStatics "thirdparty.any" = some none) && (decide (nsIn K mainGlobals "super" = some none) &&
  !(prog.main.scope.names.lookup ("super" : Str)).isSome)))))))))))))))))
theorem txt_of {prog : Program} {K : Frag} {mg : Str → Option Value} {h : Heap} {C fI : Addr} (X : K.In h) (G : h.Ns mainGlobals mg) (gC : mg "BadArgument" = some (.ref C)) (b : badB prog K C fI = true) (v : fnI K fI = fnV) : Txt prog K mg C fI := by
  unfold badB at b
  simp only [Bool.and_eq_true, decide_eq_true_eq, Bool.not_eq_true'] at b
  obtain ⟨b1, b2, b3, b4, b5, b6, b7, b8, b9, b10, b11, b12, b13, b14, b15, b16, b17, b18, b19⟩ := b
  refine ⟨gC, clsB_ok b1, b3, b4, b5, b6, b7, b8, b9, b10, b11, b12, b13, b14, b15, b16, b17, mg_none_of X G b18, b19, ?_⟩
  unfold fnB at b2
  unfold fnI at v
  split at b2
  · rename_i oc od fd osl ho
    rw [ho] at v
    obtain ⟨n1, n2, n3, n4, n5, n6, n7, n8, n9, n10, n11, n12, n13, n14, n15⟩ := fd
    have v2 : (some (n1, n2, n3, n4, n5, n6, n15) : FnI) = some ((("__init__" : Str), ("BadArgument.__init__" : Str), iA, FuncBody.stmts iB, iS, mainGlobals, builtinsNs)) := v
    simp only [Option.some.injEq, Prod.mk.injEq] at v2
    obtain ⟨h1, h2, h3, h4, h5, h6, h7⟩ := v2
    subst h1 h2 h3 h4 h5 h6 h7
    have b2 : fnC K prog.main.file C n7 n13 n8 n9 = true := b2
    cases n7 with
    | nil => cases n13 <;> cases n8 <;> cases n9 <;> cases b2
    | cons p r =>
      cases r with
      | cons _ _ => cases n13 <;> cases n8 <;> cases n9 <;> cases b2
      | nil =>
        obtain ⟨x, cc⟩ := p
        cases n13 with
        | ref cda =>
          cases n8 with
          | none =>
            cases n9 with
            | none =>
              unfold fnC at b2
              simp only [Bool.and_eq_true, beq_iff_eq] at b2
              obtain ⟨⟨⟨e1, hcd⟩, hc⟩, hcell⟩ := b2
              have e1 : x = ("__class__" : Str) := by simpa using e1
              subst e1
              split at hc
              · rename_i ccl cdd vs ccs hcda
                split at hc
                · rename_i f tf hvs
                  split at hcell
                  · rename_i cl cld D csl hcc
                    have hcell : D = C := by simpa using hcell
                    subst hcell
                    exact ⟨oc, od, _, _, _, cda, cc, _, osl, ccl, cdd, vs, ccs, f, tf, cl, cld, csl, ho, hcd, hcda, hvs, hc, hcc⟩
                  · cases hcell
                · cases hc
              · cases hc
            | _ => cases b2
          | _ => cases n9 <;> cases b2
        | _ => cases n8 <;> cases n9 <;> cases b2
  · cases b2
end BadX
end PySem
namespace He
open PySem PySem.Spec PyProof.Rows L2
/-- HeadHook4's look, the statics' namespace too, and the law's own error -/
abbrev CB : Addr × Addr → Addr × Addr := id
def frB (g : Addr → Option Obj) (n : Nat) : PySem.W.Frag := frT g (PySem.cStatics :: asD g n)
def cBad (K : PySem.W.Frag) : Addr := ga K "BadArgument"
def fBad (K : PySem.W.Frag) : Addr := ma K (ga K "BadArgument") "__init__"
abbrev AlB : Type := AlD × (Bool × PySem.BadX.FnI)
def obsB (prog : Program) (fa : List Fa) (fn : List DefD) (tf : List Defn) (g : Addr → Option Obj) (K : PySem.W.Frag) : AlB := (obsD fa fn K, (PySem.BadX.badB prog K (cBad K) (fBad K) && tabsB g tf K, PySem.BadX.fnI K (fBad K)))
def valB (fn : List DefD) : AlB := (valD fn, (true, PySem.BadX.fnV))
structure SaysB (prog : Program) (fa : List Fa) (fn : List DefD) (tf : List Defn) (h : Heap) (K : PySem.W.Frag) : Prop where
  t : SaysD fa fn K
  bad : PySem.BadX.badB prog K (cBad K) (fBad K) = true
  fnv : PySem.BadX.fnI K (fBad K) = PySem.BadX.fnV
  hd : ∀ p ∈ tf, PySem.W.codeHdIn K (cT K p).1 (cT K p).2 = true
  out : ∀ p ∈ tf, K.lookup (cT K p).2 = none
  empty : ∀ p ∈ tf, h.get? (cT K p).2 = some { cls := .none, data := .fields #[] }
def obsBG (prog : Program) (n : Nat) (fa : List Fa) (fn : List DefD) (tf : List Defn) (g : Addr → Option Obj) : AlB := obsB prog fa fn tf g (frB g n)
theorem saysB_of {prog : Program} {n : Nat} {fa : List Fa} {fn : List DefD} {tf : List Defn} {h : Heap} (e : obsBG prog n fa fn tf h.get? = valB fn) : SaysB prog fa fn tf h (frB h.get? n) := by
  have e1 : obsD fa fn (frB h.get? n) = valD fn := congrArg (fun z : AlB => z.1) e
  have e2 : (PySem.BadX.badB prog (frB h.get? n) (cBad (frB h.get? n)) (fBad (frB h.get? n)) && tabsB h.get? tf (frB h.get? n)) = true := congrArg (fun z : AlB => z.2.1) e
  have e3 : PySem.BadX.fnI (frB h.get? n) (fBad (frB h.get? n)) = PySem.BadX.fnV := congrArg (fun z : AlB => z.2.2) e
  obtain ⟨h1, h2⟩ := ba e2
  have key : ∀ p ∈ tf, PySem.W.codeHdIn (frB h.get? n) (cT (frB h.get? n) p).1 (cT (frB h.get? n) p).2 = true ∧ ∃ o, h.get? (cT (frB h.get? n) p).2 = some o ∧ emptyTab o = true := fun p hp => by
    obtain ⟨h3, h4⟩ := ba (List.all_eq_true.mp h2 p hp)
    refine ⟨h3, ?_⟩
    cases q : h.get? (cT (frB h.get? n) p).2 with
    | none =>
      rw [q] at h4
      cases h4
    | some o =>
      rw [q] at h4
      exact ⟨o, rfl, h4⟩
  exact ⟨e1, h1, e3, fun p hp => (key p hp).1, fun p hp => by
    obtain ⟨_, o, q, z⟩ := key p hp
    exact frT_none q z, fun p hp => by
    obtain ⟨_, o, q, z⟩ := key p hp
    rw [q, emptyTab_eq z]⟩
def hookB (prog : Program) (n : Nat) (fa : List Fa) (fn : List DefD) (tf : List Defn) : PySem.W.Hook where
  α := AlB
  obs := fun s => obsBG prog n fa fn tf s.heap.get?
  val := fun _ => valB fn
  says := fun _ h => ∃ K : PySem.W.Frag, K.In h ∧ SaysB prog fa fn tf h K
  of := fun _ _ e => ⟨_, frT_in, saysB_of e⟩
  keeps := fun _ _ _ ⟨K, hK, c⟩ k => ⟨K, PySem.W.Frag.In.keeps hK k, ⟨c.t, c.bad, c.fnv, c.hd, c.out, fun p hp => k _ _ (c.empty p hp)⟩⟩
theorem obsBG_eq {prog : Program} {n : Nat} {fa : List Fa} {fn : List DefD} {tf : List Defn} {g : Addr → Option Obj} {s : Shared} (h : ∀ a, g a = s.heap.get? a) : obsBG prog n fa fn tf g = (hookB prog n fa fn tf).obs s := by
  have e : g = s.heap.get? := funext h
  rw [e] <;> rfl
end He
namespace LamX
open PySem PySem.Spec PyProof.Rows L2
/-- walk_ofTs, the written part given at the heap -/
theorem walk_ofX {l : PySem.W.OpenLaw} {n k : Nat} {q : Program} {loose : List Str} {XP : (Str → Option Value) → Heap → Prop} {YP : World → Heap → Prop} {d : DefRec} {CX : World → CXT} {x : Str}
    (hn : l.most = some n) (hn2 : n ≤ sizeLine) (hdf : d.params.defaults = []) (hr : Room k callerA)
    (F : ∀ (w : World) (mg : Str → Option Value) (fa : Addr) (h : Heap), YP w h → h.Ns mainGlobals mg → mg d.name = some (.ref fa) → ∃ K : PySem.W.Frag, K.In h ∧ LawAtS l w K (CX w) k n x mg fa h)
    (hCX : ∀ (w : World) (H : Hp) (s : Shared) (e : Value) (s' : Shared), CX w [] H s (fun _ _ _ => False) e s' → False) :
    PySem.W.WalkO q loose XP YP l.row.toRowW d [] (fun f vs => PySem.call f vs) := by
  refine Att.attach_callB hn hdf fun w s₀ s₁ mg mb fa o pm cd doc a vs ns G Y ho hd hcd hmg hobj hints hlen hbits hg => ?_
  obtain ⟨K, KX, fd, cs, sp, hT, nT, C, hb, hsp, hF⟩ := F w mg fa _ Y G.T.g hmg
  exact law_callTs KX G.T.g G.T.b G.T.builtins G.T.nolimit hg hT nT C G.T.bmain hobj hints (Nat.le_trans hlen hn2) hr hF hb (fun H hH hS => hsp H a ns hlen hbits hH hS) fun H e s' => hCX w H s₁ e s'
end LamX

set_option Elab.async false
set_option linter.all false
set_option maxRecDepth 100000
set_option maxHeartbeats 4000000
/-! N16: the words that the printed texts use. -/
namespace N
open PySem PySem.Spec PyProof.Rows L2
/-! ### readings by name -/
abbrev rSubI : R2 := rI0 fun i j => .int (i - j)
abbrev rLeI : R2 := rI0 fun i j => .bl (decide (i ≤ j))
abbrev rGtI : R2 := rI0 fun i j => .bl (decide (j < i))
abbrev rGeI : R2 := rI0 fun i j => .bl (decide (j ≤ i))
abbrev rModI : R2 := rI (fun _ j => 0 < j) fun i j => .int (i % j)
abbrev rDivI : R2 := rI CDiv fun i j => .int (i / j)
abbrev rPowI : R2 := rI CPow fun i j => .int (i ^ j.toNat)
abbrev rIsN : R2 := fun x y H Q => y = .non ∧ Q (.bl (decide (x = .non))) H
abbrev rNotN : R2 := fun x y H Q => y = .non ∧ Q (.bl (!decide (x = .non))) H
abbrev rLenS (K : PySem.W.Frag) : List V → Hp → VK → Prop := fun xs H Q => ∃ p ys, xs = [.ref p] ∧ (SqL K H p ys ∨ SqT K H p ys) ∧ Q (.int ys.length) H
abbrev rAbsI : List V → Hp → VK → Prop := fun xs H Q => ∃ i, xs = [.int i] ∧ Q (.int (if i < 0 then -i else i)) H
abbrev rIntI : List V → Hp → VK → Prop := fun xs H Q => (∃ i, xs = [.int i] ∧ Q (.int i) H) ∨ ∃ k, xs = [.bl k] ∧ Q (.int (if k then 1 else 0)) H
abbrev rTupS (K : PySem.W.Frag) : List V → Hp → VK → Prop := fun xs H Q => ∃ p ys, xs = [.ref p] ∧ ((SqL K H p ys ∧ ∀ l, H l = none → Q (.ref l) (upd H l (.tup ys))) ∨ (SqT K H p ys ∧ Q (.ref p) H))
abbrev rLstS (K : PySem.W.Frag) : List V → Hp → VK → Prop := fun xs H Q => ∃ p ys, xs = [.ref p] ∧ (SqL K H p ys ∨ SqT K H p ys) ∧ ∀ l, H l = none → Q (.ref l) (upd H l (.lst ys))
abbrev rMax2I : List V → Hp → VK → Prop := fun xs H Q => ∃ i j, xs = [.int i, .int j] ∧ Q (.int (if j > i then j else i)) H
abbrev rMin2I : List V → Hp → VK → Prop := fun xs H Q => ∃ i j, xs = [.int i, .int j] ∧ Q (.int (if j < i then j else i)) H
abbrev rNegI : V → Hp → VK → Prop := rU fun i => .int (-i)
abbrev gSubI : PyData → PyData → Option PyData := gII fun i j => i - j
abbrev gLe : PyData → PyData → Option PyData := gIB fun i j => decide (i ≤ j)
abbrev gGt : PyData → PyData → Option PyData := gIB fun i j => decide (j < i)
abbrev gGe : PyData → PyData → Option PyData := gIB fun i j => decide (j ≤ i)
variable [TabOf] in
theorem rd_sub : RD2 rSubI gSubI := rd_II _
variable [TabOf] in
theorem rd_le : RD2 rLeI gLe := rd_IB _
variable [TabOf] in
theorem rd_gt : RD2 rGtI gGt := rd_IB _
variable [TabOf] in
theorem rd_ge : RD2 rGeI gGe := rd_IB _
theorem Room.u65 {k : Nat} {A : Around} (r : Room k A) : A.units + 65 < cLine := by have := r.un; omega
/-- Fb leaves slot i a list that changes -/
theorem hi_c {d : PyData} {i : Nat} : ∀ en x e', fC d en = some (x, e') → ∀ ds, e'[i]? = some (.mu ds) → ∃ ds', en[i]? = some (.mu ds') := fun en x e' h ds q => by
  cases h
  exact ⟨ds, q⟩
theorem hi_v {j i : Nat} : ∀ en x e', fVar j en = some (x, e') → ∀ ds, e'[i]? = some (.mu ds) → ∃ ds', en[i]? = some (.mu ds') := fun en x e' h ds q => by
  unfold fVar at h
  split at h
  · cases h
    exact ⟨ds, q⟩
  · cases h
theorem hj_v {j i : Nat} : ∀ en x e', fVar j en = some (x, e') → e'[i]? = en[i]? := fun en x e' h => by
  unfold fVar at h
  split at h
  · cases h
    rfl
  · cases h
/-! ### defs by name -/
/-- the def st, named x, keeps sp at the level k -/
structure Wk (P : Program) (w : World) (K : PySem.W.Frag) (mg : Str → Option Value) (base : Heap) (k : Nat) (x : Str) (st : Stmt) (ps : List Str) (sp : Sp) : Prop where
  ex : ∃ (f : Addr) (fd : FuncData), FunD K x x (defArgs st) (defBody st) (defScope st) [] [] f fd ∧ FnOk P w K mg base (L2.CX P w) k f fd ps sp ∧ mg x = some (.ref f)
  len : ps.length ≤ 100
  bnd : ∀ (kV doc pm : Value) (an : Option Addr) (cdv ct : Value) (us : List Value), us.length = ps.length → bindArgs (PySem.W.fnOf x x (defArgs st) (defBody st) (defScope st) .none kV doc pm an cdv ct) ⟨us, []⟩ = pure (ps.zip us)
/-- where the defs stand -/
abbrev FnAt (K : PySem.W.Frag) (mg : Str → Option Value) (x : Str) (st : Stmt) : Prop := ∃ fd : FuncData, FunD K x x (defArgs st) (defBody st) (defScope st) [] [] (He.fAd K (x, none)) fd ∧ mg x = some (.ref (He.fAd K (x, none)))
/-- FunD.ok, the def's code told -/
theorem okC {P : Program} {w : World} {K : PySem.W.Frag} {mg : Str → Option Value} {base : Heap} {x qual : Str} {params : Arguments} {body : List Stmt} {scope : Scope} {dvs : List V} {kws : List (Str × V)} {p : Str × Option Str} {fd : FuncData} {CX : CXT} {N ps : List Str} {k : Nat} {sp : Sp}
    (F : FunD K x qual params body scope dvs kws (He.fAd K p) fd) (S : FnScope N ps scope) (len : ∀ vs H Q E, sp vs H Q E → vs.length = ps.length)
    (hbody : ∀ (cdv : Value) (A : Around) (outer : List Env) (s : Shared) (H : Hp) (vs : List V) (Q : VK) (E : XK), cdv = .ref (He.codeOf K p) → Room k (A.deeper (envOfC qual scope s.heap.objs.size (He.fAd K p) cdv)) → sp vs H Q E →
      ∃ t, PSs (cxOf CX P w K mg base N qual scope (He.fAd K p) cdv A outer s H E) body t ∧ t { nx := fun _ H' => Q .non H', rt := Q } (start N vs) H) : FnOk P w K mg base CX (k + 1) (He.fAd K p) fd ps sp := by
  obtain ⟨oc, od, dV, kV, doc, pm, an, cdv, ct, osl, rfl, lk, hcd, _, _⟩ := F.ex
  obtain ⟨c, rfl⟩ := He.codeIn_ref hcd
  have e : He.codeOf K p = c := He.codeOf_eq lk rfl
  exact fn_of lk hcd S len fun A outer s H vs Q E hr hsp => hbody (.ref c) A outer s H vs Q E (by rw [e]) hr hsp
section
variable {X : Cx} {k j : Nat} {x : Str} {st : Stmt} {ps ks : List Str} {sp : Sp} {E : XK} {p pos : Pos} {e : Expr} {es : List Expr} {t tk : TA} {kws : List Keyword}
theorem pe_w (W : Wk X.prog X.w X.K X.mg X.base k x st ps sp) (hr : Room j X.A) (hx : Passes (L2.CX X.prog X.w) X E) (ha : PA X (e :: es) t) (hj : k ≤ j := by decide) (hg : Gl X x := by rfl) (hdb : (x == ("__debug__" : Str)) = false := by decide)
    (he : starEach (e :: es) X.env = (false, eval e X.env) :: starEach es X.env := by rfl) (hpl : (backTo pos (starEach es X.env)).any (·.1) = false := by rfl) : PE X (.Call (.Name x p) (e :: es) [] pos) (tCall sp [] E t) := by
  obtain ⟨f, fd, F, G, hm⟩ := W.ex
  exact pe_call G (hr.mono hj) hg hm F.kp (F.bindsN W.bnd) .nil hx ha hdb he hpl
/-- f(k = v, ..) -/
theorem pe_wK (W : Wk X.prog X.w X.K X.mg X.base k x st ps sp) (hr : Room j X.A) (hx : Passes (L2.CX X.prog X.w) X E) (hkw : PK X kws tk) (hlen : ks.length = ps.length)
    (hb : ∀ (kV doc pm : Value) (an : Option Addr) (cdv ct : Value) (us : List Value), us.length = ps.length → bindArgs (PySem.W.fnOf x x (defArgs st) (defBody st) (defScope st) .none kV doc pm an cdv ct) ⟨[], ks.zip us⟩ = pure (ps.zip us))
    (hj : k ≤ j := by decide) (hg : Gl X x := by rfl) (hdb : (x == ("__debug__" : Str)) = false := by decide) (hall : (backToKw pos (keywordEach kws X.env)).all (·.1.isSome) = true := by rfl) (hks : (backToKw pos (keywordEach kws X.env)).filterMap (·.1) = ks := by rfl)
    (hpl : ((backTo pos (starEach [] X.env)).any (·.1) || (backToKw pos (keywordEach kws X.env)).any (·.1.isNone)) = false := by rfl) : PE X (.Call (.Name x p) [] kws pos) (tCall sp [] E tk) := by
  obtain ⟨f, fd, F, G, hm⟩ := W.ex
  obtain ⟨oc, od, dV, kV, doc, pm, an, cdv, ct, osl, rfl, lk, hcd, hD, hK⟩ := F.ex
  have hdV : dV = .none := by
    rcases hD with ⟨_, e⟩ | ⟨e, _⟩
    · exact e
    · exact absurd rfl e
  subst hdV
  refine ⟨fun pins s σ H Q I h => ?_⟩
  refine wpAny_Call_Name_kw (ld_glob I hg hm ?_ hdb)
  refine PySem.W.callWith_KW0 (h₀ := X.base) I.ok.mod.kin F.kp hall (thn (hkw.run pos pins s σ H _ I h) fun ws s2 ⟨zs, H2, I2, rz, q2⟩ => ⟨I2.kIn, ?_⟩) hpl
  rw [hks]
  have q2 : sp (zs ++ []) H2 Q E := q2
  rw [List.append_nil] at q2
  have hl : ws.length = ps.length := by rw [← rz.length]; exact G.len _ _ _ _ q2
  show wpAny _ _ (call (.ref f) [] (ks.zip ws)) _ _ _
  refine wpAny_call (codeAny_mono (G.run X.A X.stack s2 H2 ⟨[], ks.zip ws⟩ ws zs Q E (hr.mono hj) I2.env0 (BindsTo.of_eq (hb _ _ _ _ _ _ ws hl)) rz q2) fun r s' hq => ?_)
  cases r with
  | error e => exact hx pins σ H2 s2 e s' I2 hq
  | ok fl =>
    cases fl with
    | ret u => exact I2.after hq
    | next => exact False.elim hq
    | brk => exact False.elim hq
    | cont => exact False.elim hq
end
variable [TabOf]
section
variable {P : Program} {w : World} {K : PySem.W.Frag} {mg : Str → Option Value} {base : Heap} {k : Nat} {x : Str} {st : Stmt} {Nl ps : List Str} {C : Addr} {F : FS} {n : Nat}
theorem start_eq {Nl : List Str} {vs : List V} {n : Nat} (h : vs.length = n) : start Nl vs = vs.map some ++ List.replicate (Nl.length - n) none := by
  subst h
  rfl
/-- a def that changes nothing -/
theorem wk_P (A : FnAt K mg x st) (S : FnScope Nl ps (defScope st)) (hn : ps.length = n) (hp : n ≤ 100)
    (bnd : ∀ (kV doc pm : Value) (an : Option Addr) (cdv ct : Value) (us : List Value), us.length = ps.length → bindArgs (PySem.W.fnOf x x (defArgs st) (defBody st) (defScope st) .none kV doc pm an cdv ct) ⟨us, []⟩ = pure (ps.zip us))
    (t : XK → TS) (he : ∀ E, EvS true C E (t E) F)
    (hb : ∀ (f : Addr) (cdv : Value) (hcv : cdv = .ref (He.codeOf K (x, none))) (A : Around) (outer : List Env) (s : Shared) (H : Hp) (E : XK), Room k (A.deeper (envOfC x (defScope st) s.heap.objs.size f cdv)) → PSs (cxOf (L2.CX P w) P w K mg base Nl x (defScope st) f cdv A outer s H E) (defBody st) (t E)) :
    Wk P w K mg base (k + 1) x st ps (spP C n (runP Nl.length n F)) := by
  obtain ⟨fd, FD, g⟩ := A
  refine ⟨⟨_, fd, FD, okC FD S (fun vs H Q E h => ?_) (fun cdv A outer s H vs Q E hcv hr h => ⟨t E, hb _ cdv hcv A outer s H E hr, ?_⟩), g⟩, by rw [hn]; exact hp, bnd⟩
  · obtain ⟨_, _, _, e, _⟩ := h
    rw [e, hn]
  · have h' := h
    obtain ⟨_, _, _, e, _⟩ := h'
    rw [start_eq e]
    exact run_pure (he E) h
/-- a def that changes its first argument -/
theorem wk_D (A : FnAt K mg x st) (S : FnScope Nl ps (defScope st)) (hn : ps.length = n) (hp : n ≤ 100)
    (bnd : ∀ (kV doc pm : Value) (an : Option Addr) (cdv ct : Value) (us : List Value), us.length = ps.length → bindArgs (PySem.W.fnOf x x (defArgs st) (defBody st) (defScope st) .none kV doc pm an cdv ct) ⟨us, []⟩ = pure (ps.zip us))
    (t : XK → TS) (he : ∀ E, EvS false C E (t E) F)
    (hb : ∀ (f : Addr) (cdv : Value) (hcv : cdv = .ref (He.codeOf K (x, none))) (A : Around) (outer : List Env) (s : Shared) (H : Hp) (E : XK), Room k (A.deeper (envOfC x (defScope st) s.heap.objs.size f cdv)) → PSs (cxOf (L2.CX P w) P w K mg base Nl x (defScope st) f cdv A outer s H E) (defBody st) (t E)) :
    Wk P w K mg base (k + 1) x st ps (spD n (runD Nl.length n F)) := by
  obtain ⟨fd, FD, g⟩ := A
  refine ⟨⟨_, fd, FD, okC FD S (fun vs H Q E h => ?_) (fun cdv A outer s H vs Q E hcv hr h => ⟨t E, hb _ cdv hcv A outer s H E hr, ?_⟩), g⟩, by rw [hn]; exact hp, bnd⟩
  · obtain ⟨_, _, _, _, _, _, _, _, rfl, e, _⟩ := h
    rw [List.length_cons, e, hn]
  · have h' := h
    obtain ⟨_, _, _, rest, _, _, _, _, e0, e, _⟩ := h'
    have el : vs.length = n := by rw [e0, List.length_cons, e]
    rw [start_eq el]
    exact run_D (he E) h
end
end N

set_option Elab.async false
set_option linter.all false
set_option maxRecDepth 100000
set_option maxHeartbeats 4000000
/-! N17: more words: a module's number; pairs stored at once; a call that is refused. -/
namespace N
open PySem PySem.Spec PyProof.Rows L2
abbrev rAddI : R2 := rI0 fun i j => .int (i + j)
abbrev gAddI : PyData → PyData → Option PyData := gII fun i j => i + j
theorem pe_globI {X : Cx} {x : Str} {i : Int} {pos : Pos} (hg : Gl X x) (hm : ∃ t, X.mg x = some (.int i t)) (hd : (x == ("__debug__" : Str)) = false := by decide) : PE X (.Name x pos) (tC (.int i)) := by
  obtain ⟨t, h⟩ := hm
  exact pe_glob hg h ⟨_, rfl⟩ hd
/-! ### _law_refused's text -/
def refBody (a : Str) (j : Nat) (p1 p2 p3 p4 p5 p6 p7 p8 p9 p10 p11 : Pos) : List Stmt :=
  [.Try [.Expr (.Call (.Name a p1) [] [] p2) p3] [.ExceptHandler (some (.Name "BadArgument" p4)) (some "e") [.Return (some (.Attribute (.Name "e" p5) "name" p6)) p7] p8] [] [] p9, .Return (some (.Constant (.str "") j p10)) p11]
variable [TabOf]
theorem ev_cI (n : Int) : Ev (tC (.int n)) (fC (.int n)) := ev_c fun _ _ => rfl
theorem ev_cB (b : Bool) : Ev (tC (.bl b)) (fC (.bool b)) := ev_c fun _ _ => rfl
theorem ev_cS (x : Str) : Ev (tC (.str x)) (fC (.str x)) := ev_c fun _ _ => rfl
theorem ev_cN : Ev (tC .non) (fC .none) := ev_c fun _ _ => rfl
theorem rd_addI : RD2 rAddI gAddI := rd_II _
theorem pe_ref {X : Cx} {C fI c P : Addr} {st : Stmt} {a : Str} {j : Nat} {p1 p2 p3 p4 p5 p6 p7 p8 p9 p10 p11 : Pos} {k : Nat} {params : Arguments} {body : Expr} {scope : Scope} {t : XK → TE} {p lpos pos : Pos} (Bd : PySem.BadX.Txt X.prog X.K X.mg C fI) (A : FnAt X.K X.mg "_law_refused" st)
    (TB : LamX.TabB X.base X.mg c P) (hcode : X.env.code = .ref c) (hmT : (P, X.env.qual ++ "<lambda>") ∈ TabOf.T) (hu : ∀ p ∈ TabOf.T, p.1 = P → p.2 = X.env.qual ++ "<lambda>") (hr : Room (k + 2) X.A) (L : LamX.LamS X.env.scope scope)
    (hbody : ∀ (A : Around) (outer : List Env) (s : Shared) (H : Hp) (E : XK) (f c' : Addr), Room k (A.deeper (LamX.lamEnv X scope s.heap.objs.size f c')) → PE (LamX.lamCx X A outer s H E scope f c') body (t E))
    (hB : defBody st = refBody a j p1 p2 p3 p4 p5 p6 p7 p8 p9 p10 p11 := by rfl) (Sg : FnScope [a, ("e" : Str)] [a] (defScope st) := by exact ⟨rfl, rfl, rfl, by decide +kernel, rfl, by decide +kernel, by decide +kernel⟩)
    (h1 : (defScope st).names.lookup ("BadArgument" : Str) = some NameKind.globalImplicit := by rfl) (h2 : (defScope st).names.lookup ("e" : Str) = some NameKind.local := by rfl) (h3 : (defScope st).names.lookup a = some NameKind.local := by rfl) (h4 : (a == ("__debug__" : Str)) = false := by decide) (h5 : (a == ("__classdict__" : Str)) = false := by decide)
    (bnd : ∀ (kV doc pm : Value) (an : Option Addr) (cdv ct : Value) (us : List Value), us.length = [a].length → bindArgs (PySem.W.fnOf "_law_refused" "_law_refused" (defArgs st) (defBody st) (defScope st) .none kV doc pm an cdv ct) ⟨us, []⟩ = pure ([a].zip us) := by exact fun _ _ _ _ _ _ us hl => match us, hl with | [_], _ => rfl)
    (hg : Gl X "_law_refused" := by rfl) (hdef : defaultsOf params X.env = ([], []) := by rfl)
    (hbind : ∀ (q : Str) (cl : List (Str × Addr)) (pm cv ctv : Value), bindArgs (PySem.W.kla_fn "<lambda>" q params body scope cl pm cv ctv) ⟨[], []⟩ = pure [] := by intros; rfl) :
    PE X (.Call (.Name "_law_refused" p) [.Lambda params body scope lpos] [] pos) (LamX.tLam TabOf.T (LamX.TTref X.K C) t) := by
  obtain ⟨fd, FD, hm⟩ := A
  have hb := FD.bindsN (ps := [a]) bnd
  have kp := FD.kp
  obtain ⟨oc, od, dV, kV, doc, pm, an, cdv, ct, osl, rfl, lk, hcd, _, _⟩ := FD.ex
  refine LamX.pe_lamcall (Ng := [a, ("e" : Str)]) (a := a) hg hm kp lk hcd hb Sg rfl (.inl h3) ?_ TB hcode hmT hu hr L hdef hbind hbody (by decide) h4 h5
  rw [hB]
  exact LamX.ref_gives Bd h1 rfl Sg.nd h2 h3 h4
section
variable {pb : Bool} {C : Addr} {E : XK} {ta tb : TE} {Fa Fb : FE} {i j : Nat} {K : PySem.W.Frag}
omit [TabOf] in
/-- i, j = a, b -/
def sPar (i j : Nat) (Fa Fb : FE) : FS := fun en => (Fa en).bind fun p => (Fb p.2).bind fun q => if isPlain q.2[i]? = true ∧ isPlain (q.2.set i (.im p.1))[j]? = true then some (.nx ((q.2.set i (.im p.1)).set j (.im q.1))) else none
theorem s_par (ha : Ev ta Fa) (hb : Ev tb Fb) : EvS pb C E (tPar i j (tCons ta (tCons tb tNil))) (sPar i j Fa Fb) := fun w en σ H out o hh D hpb e Dn p => by
  unfold sPar at e
  cases e1 : Fa en with
  | none => rw [e1] at e; cases e
  | some q =>
    rw [e1] at e
    obtain ⟨d, ea⟩ := q
    simp only [Option.bind_some] at e
    cases e2 : Fb ea with
    | none => rw [e2] at e; cases e
    | some q2 =>
      rw [e2] at e
      obtain ⟨d2, eb⟩ := q2
      simp only [Option.bind_some] at e
      split at e
      · rename_i hp
        cases e
        refine ha w en σ H d ea o e1 _ fun v H1 f1 o1 r1 => ?_
        refine hb w ea σ H1 d2 eb o1 e2 _ fun u H2 f2 o2 r2 => ?_
        refine ⟨v, u, rfl, ?_⟩
        have o3 := o2.set (o2.plain hp.1) (Rep.fr f2 _ _ r1)
        exact p w _ H2 (.refl w) (o3.set (o3.plain hp.2) r2)
      · cases e
/-- i, j = a, [..], by a pair -/
theorem s_parT (ha : Ev ta Fa) (hb : EvF tb Fb) (hj0 : j ≠ 0 ∨ pb = true := by first | exact .inr rfl | exact .inl (by decide)) : EvS pb C E (tAsg (tTup (tCons ta (tCons tb tNil))) (gTup K 2 (gCons (gName i) (gCons (gName j) gNil)))) (sParF i j Fa Fb) := fun w en σ H out o hh D hpb e Dn p => by
  unfold sParF at e
  cases e1 : Fa en with
  | none => rw [e1] at e; cases e
  | some q =>
    rw [e1] at e
    obtain ⟨d, ea⟩ := q
    simp only [Option.bind_some] at e
    cases e2 : Fb ea with
    | none => rw [e2] at e; cases e
    | some q2 =>
      rw [e2] at e
      obtain ⟨d2, eb⟩ := q2
      simp only [Option.bind_some] at e
      refine ha w en σ H d ea o e1 _ fun v H1 f1 o1 r1 => ?_
      obtain ⟨ds, rfl, k⟩ := hb (w.kp d v) ea σ H1 d2 eb (o1.kp r1) e2
      simp only at e
      split at e
      · rename_i hp
        cases e
        refine k _ fun a vs H2 na f2 o2 r2 => ?_
        refine ⟨by show 2 ≤ sizeLine; decide, fun b hb => ?_⟩
        have s2 : Same H2 (upd H2 b (.tup [v, .ref a])) := same_upd hb
        refine ⟨b, [v, .ref a], rfl, SqT.of upd_same, rfl, v, _, rfl, .ref a, [], rfl, rfl, ?_⟩
        have o2 := o2.same s2
        have rv : Rep ((w.kp d v).hold a vs).M _ d v := o2.keep (d, v) List.mem_cons_self
        have o3 := o2.set (o2.plain hp.1) rv
        have o4 : Ok (((w.kp d v).own j [a])) ((eb.set i (.im d)).set j (.mu ds)) ((σ.set i (some v)).set j (some (.ref a))) _ := o3.letMu hh (Reps.fr (Fr.of s2) _ _ r2) (by rw [List.length_set]; exact hp.2.1)
        exact p (w.own j [a]) _ _ ⟨rfl, rfl, rfl, rfl, rfl, rfl, own0 hj0 hpb⟩ (Ok.unkp (w := w.own j [a]) o4).1
      · cases e
end
end N

set_option Elab.async false
set_option linter.all false
set_option maxRecDepth 100000
set_option maxHeartbeats 4000000
/-! N18: the law's dice and the law itself, over a script. -/
namespace N
open PySem PySem.Spec PyProof.Rows L2
/-- a def by its own promise -/
theorem wk_S {P : Program} {w : World} {K : PySem.W.Frag} {mg : Str → Option Value} {base : Heap} {k : Nat} {x : Str} {st : Stmt} {Nl ps : List Str} {sp : Sp} (A : FnAt K mg x st) (S : FnScope Nl ps (defScope st)) (hp : ps.length ≤ 100)
    (bnd : ∀ (kV doc pm : Value) (an : Option Addr) (cdv ct : Value) (us : List Value), us.length = ps.length → bindArgs (PySem.W.fnOf x x (defArgs st) (defBody st) (defScope st) .none kV doc pm an cdv ct) ⟨us, []⟩ = pure (ps.zip us))
    (len : ∀ vs H Q E, sp vs H Q E → vs.length = ps.length) (t : XK → TS) (he : ∀ vs H Q E, sp vs H Q E → t E { nx := fun _ H' => Q .non H', rt := Q } (start Nl vs) H)
    (hb : ∀ (f : Addr) (cdv : Value) (hcv : cdv = .ref (He.codeOf K (x, none))) (A : Around) (outer : List Env) (s : Shared) (H : Hp) (E : XK), Room k (A.deeper (envOfC x (defScope st) s.heap.objs.size f cdv)) → PSs (cxOf (L2.CX P w) P w K mg base Nl x (defScope st) f cdv A outer s H E) (defBody st) (t E)) :
    Wk P w K mg base (k + 1) x st ps sp := by
  obtain ⟨fd, FD, g⟩ := A
  exact ⟨⟨_, fd, FD, okC FD S len (fun cdv A outer s H vs Q E hcv hr h => ⟨t E, hb _ cdv hcv A outer s H E hr, he vs H Q E h⟩), g⟩, hp, bnd⟩
variable [TabOf]
/-- Fr from here: nothing that was tracked is changed -/
abbrev Fr0 (H H' : Hp) : Prop := Fr (fun _ => False) H H'
theorem SqL.fr0 {K : PySem.W.Frag} {H H' : Hp} {a : Addr} {xs : List V} (f : Fr0 H H') (h : SqL K H a xs) : SqL K H' a xs := by
  rcases h with h | h
  · exact .inl (rd_fr f id (fun ps z => by cases z) h)
  · exact .inr h
theorem tabs_upd {T : List (Addr × Str)} {H : Hp} {p : Addr} {u : HO} (t : LamX.Tabs T H) (h : H p = none) : LamX.Tabs T (upd H p u) := t.ext (same_upd h)
omit [TabOf] in
def tDice (K : PySem.W.Frag) : TS := tSeq (tAsg (tIf (tTest (tOp (rLtX K) (tVar 1) (tCB (rLenS K) (tCons (tVar 0) tNil)))) (tOp (rIx K) (tVar 0) (tVar 1)) (tOp (rAddX K) (tOp rMulX (tC (.int 733)) (tVar 1)) (tC (.int 29)))) (gName 2)) (tSeq (tAsg (tOp (rAddX K) (tC (.int 930011)) (tOp rMulX (tC (.int 7907)) (tVar 1))) (gName 3)) (tSeq (tFor (iSeq K (tOp (rAddX K) (tSl (rSlX K) (tVar 0) tNoPart (tPart (tC (.int 6)))) (tLst (tCons (tVar 2) (tNil))))) (gName 4) (tAsg (tOp rModI (tCB rIntI (tCons (tOp (rAddX K) (tOp rMulX (tVar 3) (tC (.int 48271))) (tOp rModI (tCB rIntI (tCons (tVar 4) tNil)) (tC (.int 2147480009)))) tNil)) (tC (.int 2147480009))) (gName 3))) (tRet (tLst (tCons (tIf (tOr (tTest (tOp (rLtX K) (tVar 2) (tC (.int 0)))) (tTest (tOp rGeI (tVar 2) (tOp rPowI (tC (.int 10)) (tC (.int 16)))))) (tCB rAbsI (tCons (tVar 2) tNil)) (tC (.int 0))) (tCons (tVar 3) (tCons (tC (.int 0)) (tNil))))))))
/-- _law_dice(script, spot): a new list of three ints -/
def spDice (K : PySem.W.Frag) : Sp := fun vs H Q _ => ∃ (a : Addr) (ns : List Int) (spot : Nat), vs = [.ref a, .int (spot : Int)] ∧ SqL K H a (ns.map V.int) ∧ ns.length ≤ 100000 ∧ spot ≤ 1000 ∧ LamX.Tabs TabOf.T H ∧
  ∀ (p : Addr) (H' : Hp) (i m : Int), 0 ≤ i → 0 ≤ m → m < 2147480009 → Fr0 H H' → LamX.Tabs TabOf.T H' → H' p = some (.lst [.int i, .int m, .int 0]) → (∀ o, H p = some o → ∃ ps, o = .tbl ps) → Q (.ref p) H'
theorem dice_ok {K : PySem.W.Frag} (vs : List V) (H : Hp) (Q : VK) (E : XK) (h : spDice K vs H Q E) : tDice K { nx := fun _ H' => Q .non H', rt := Q } (start ["script", "spot", "own", "mixed", "cell"] vs) H := by
  obtain ⟨a, ns, spot, rfl, hs, hz, hsp, ht, q⟩ := h
  -- own
  have step1 : ∀ (R : VK), (∀ o : Int, R (.int o) H) → tIf (tTest (tOp (rLtX K) (tVar 1) (tCB (rLenS K) (tCons (tVar 0) tNil)))) (tOp (rIx K) (tVar 0) (tVar 1)) (tOp (rAddX K) (tOp rMulX (tC (.int 733)) (tVar 1)) (tC (.int 29))) [some (.ref a), some (.int (spot : Int)), none, none, none] H R := by
    intro R hR
    refine ⟨_, rfl, _, rfl, a, _, rfl, .inl hs, .inl ⟨_, _, rfl, rfl, _, rfl, ?_⟩⟩
    show if decide ((spot : Int) < (((ns.map V.int).length : Nat) : Int)) = true then _ else _
    rw [List.length_map]
    by_cases hl : spot < ns.length
    · rw [if_pos (decide_eq_true (by omega))]
      refine ⟨_, rfl, _, rfl, .inl ⟨a, _, (spot : Int), .int ns[spot], rfl, rfl, hs, ?_, hR _⟩⟩
      have e : ixN (ns.map V.int).length (spot : Int) = some spot := by
        unfold ixN
        rw [List.length_map]
        rw [if_pos (by omega)]
        simp [hl]
      unfold atI
      rw [e]
      simp [hl]
    · rw [if_neg (by simp; omega)]
      refine ⟨_, rfl, .inl ⟨733, (spot : Int), rfl, rfl, .inl ⟨by decide, by decide⟩, ?_⟩⟩
      exact .inl ⟨_, _, rfl, rfl, hR _⟩
  refine step1 _ fun o => ?_
  refine ⟨_, rfl, .inl ⟨7907, (spot : Int), rfl, rfl, .inl ⟨by decide, by decide⟩, ?_⟩⟩
  refine .inl ⟨_, _, rfl, rfl, ?_⟩
  have m0 : (0 : Int) ≤ 930011 + 7907 * (spot : Int) := by omega
  have m1 : 930011 + 7907 * (spot : Int) < 2 ^ 40 := by
    have : (2 : Int) ^ 40 = 1099511627776 := by decide
    omega
  -- the walk
  refine ⟨_, rfl, 6, rfl, .inl ⟨a, _, rfl, hs, fun p1 hp1 => ?_⟩⟩
  have ecut : ∃ cs : List Int, cutV (ns.map V.int) none (some 6) = cs.map V.int ∧ cs.length ≤ 100000 := by
    unfold cutV
    rw [← List.map_drop, ← List.map_take]
    refine ⟨_, rfl, ?_⟩
    rw [List.length_take, List.length_drop]
    omega
  obtain ⟨cs, ecs, hcs⟩ := ecut
  rw [ecs]
  refine ⟨_, rfl, by show 1 ≤ sizeLine; decide, fun p2 hp2 => ?_⟩
  have n12 : p2 ≠ p1 := fun z => by
    rw [z, upd_same] at hp2
    cases hp2
  have hh1 : upd (upd H p1 (.lst (cs.map V.int))) p2 (.lst [.int o]) p1 = some (.lst (cs.map V.int)) := by rw [upd_ne (Ne.symm n12), upd_same]
  refine .inr (.inr ⟨p1, p2, _, _, rfl, rfl, hh1, upd_same, ?_, fun p3 hp3 => ?_⟩)
  · rw [List.length_map]
    exact Nat.le_trans (Nat.add_le_add_right hcs _) (by decide : 100000 + 1 ≤ sizeLine)
  have eapp : cs.map V.int ++ [V.int o] = (cs ++ [o]).map V.int := by simp
  rw [eapp]
  have f1 : Fr0 H (upd H p1 (.lst (cs.map V.int))) := Fr.of (same_upd hp1)
  have f2 : Fr0 H (upd (upd H p1 (.lst (cs.map V.int))) p2 (.lst [.int o])) := f1.trans (Fr.of (same_upd hp2))
  have f3 : Fr0 H (upd (upd (upd H p1 (.lst (cs.map V.int))) p2 (.lst [.int o])) p3 (.lst ((cs ++ [o]).map V.int))) := f2.trans (Fr.of (same_upd hp3))
  have t3 := tabs_upd (p := p3) (u := .lst ((cs ++ [o]).map V.int)) (tabs_upd (p := p2) (u := .lst [.int o]) (tabs_upd (p := p1) (u := .lst (cs.map V.int)) ht hp1) hp2) hp3
  have h3 : upd (upd (upd H p1 (.lst (cs.map V.int))) p2 (.lst [.int o])) p3 (.lst ((cs ++ [o]).map V.int)) p3 = some (.lst ((cs ++ [o]).map V.int)) := upd_same
  generalize upd (upd (upd H p1 (.lst (cs.map V.int))) p2 (.lst [.int o])) p3 (.lst ((cs ++ [o]).map V.int)) = H3 at f3 t3 h3
  generalize hrs : cs ++ [o] = rs at h3
  have hne : 0 < rs.length := by
    rw [← hrs]
    simp
  refine ⟨p3, rfl, .inl ⟨⟨_, SqL.of h3⟩, ?_⟩⟩
  refine for_list (K := K) (a := p3) (xs := rs.map V.int) (fun i σ H' => ∃ (m : Int) (c : Option V), σ = [some (.ref a), some (.int (spot : Int)), some (.int o), some (.int m), c] ∧ H' = H3 ∧ 0 ≤ m ∧ m < 2 ^ 40 ∧ (0 < i → m < 2147480009))
    ⟨930011 + 7907 * (spot : Int), none, rfl, rfl, m0, m1, fun z => absurd z (by decide)⟩ (fun i σ H' _ ⟨_, _, _, e, _⟩ => by rw [e]; exact SqL.of h3) ?_ ?_
  · rintro i x σ H' hx ⟨m, c, rfl, rfl, h0, h1, _⟩
    obtain ⟨z, rfl⟩ : ∃ z : Int, x = .int z := by
      rw [List.getElem?_map] at hx
      cases e : rs[i]? with
      | none => rw [e] at hx; cases hx
      | some z => rw [e] at hx; exact ⟨z, (Option.some.inj hx).symm⟩
    refine ⟨_, rfl, .inl ⟨m, 48271, rfl, rfl, .inl ⟨by omega, ?_⟩, ?_⟩⟩
    · have : (2 : Int) ^ 40 < 2 ^ 64 := by decide
      omega
    refine ⟨_, rfl, .inl ⟨z, rfl, z, 2147480009, rfl, rfl, (by decide : (0 : Int) < 2147480009), ?_⟩⟩
    refine .inl ⟨_, _, rfl, rfl, ?_⟩
    refine .inl ⟨_, rfl, _, 2147480009, rfl, rfl, (by decide : (0 : Int) < 2147480009), ?_⟩
    have a1 := Int.emod_nonneg (m * 48271 + z % 2147480009) (by decide : (2147480009 : Int) ≠ 0)
    have a2 := Int.emod_lt_of_pos (m * 48271 + z % 2147480009) (by decide : (0 : Int) < 2147480009)
    refine ⟨_, _, rfl, rfl, a1, ?_, fun _ => a2⟩
    have : (2 : Int) ^ 40 = 1099511627776 := by decide
    omega
  · rintro σ H' ⟨m, c, rfl, rfl, h0, h1, h2⟩
    have hm : m < 2147480009 := h2 (by rw [List.length_map]; exact hne)
    -- the list of three
    have fin : ∀ i : Int, 0 ≤ i → ([V.int i, .int m, .int 0] : List V).length ≤ sizeLine ∧ ∀ p, H' p = none → Q (.ref p) (upd H' p (.lst [.int i, .int m, .int 0])) := fun i hi =>
      ⟨by show 3 ≤ sizeLine; decide, fun p hp => by
        refine q p _ i m hi h0 hm (f3.trans (Fr.of (same_upd hp))) (tabs_upd t3 hp) upd_same ?_
        intro u e
        cases u with
        | tbl ps => exact ⟨ps, rfl⟩
        | _ =>
          have k := f3 p _ e id (fun ps z => by cases z)
          rw [hp] at k
          cases k⟩
    refine ⟨_, rfl, .inl ⟨o, 0, rfl, rfl, decide (o < 0), rfl, ?_⟩⟩
    by_cases c1 : o < 0
    · rw [decide_eq_true c1]
      refine ⟨_, rfl, o, rfl, _, rfl, ?_⟩
      rw [if_pos c1]
      exact fin (-o) (by omega)
    · rw [decide_eq_false c1]
      refine ⟨_, rfl, 10, 16, rfl, rfl, ⟨by decide, by decide, by decide⟩, o, _, rfl, rfl, _, rfl, ?_⟩
      by_cases c2 : decide ((10 : Int) ^ (16 : Int).toNat ≤ o) = true
      · rw [c2]
        refine ⟨_, rfl, o, rfl, _, rfl, ?_⟩
        rw [if_neg c1]
        exact fin o (by omega)
      · have c2' : decide ((10 : Int) ^ (16 : Int).toNat ≤ o) = false := by
          cases e : decide ((10 : Int) ^ (16 : Int).toNat ≤ o) with
          | true => exact absurd e c2
          | false => rfl
        rw [c2']
        exact ⟨_, rfl, fin 0 (by decide)⟩
/-! ### the law -/
omit [TabOf] in
/-- for spot in range(max(1, min(4, len(script)))): if not _law_right(_law_dice(script, spot)): return False / return True -/
def tLaw [TabOf] (K : PySem.W.Frag) (G : List PyData → List PyData → Option (List PyData × PyData)) : TS := tSeq (tFor (iRng1 (tCons (tCB rMax2I (tCons (tC (.int 1)) (tCons (tCB rMin2I (tCons (tC (.int 4)) (tCons (tCB (rLenS K) (tCons (tVar 0) tNil)) tNil))) tNil))) tNil)) (gName 1)
  (tIfS (tNot (tB (tCall (spD 1 G) [] E0 (tCons (tCall (spDice K) [] E0 (tCons (tVar 0) (tCons (tVar 1) tNil))) tNil)))) (tRet (tC (.bl false))) tNext)) (tRet (tC (.bl true)))
def spLaw (K : PySem.W.Frag) : Sp := fun vs H Q _ => ∃ (a : Addr) (ns : List Int), vs = [.ref a] ∧ SqL K H a (ns.map V.int) ∧ ns.length ≤ 100000 ∧ LamX.Tabs TabOf.T H ∧ ∀ H', Q (.bl true) H'
theorem law_ok {K : PySem.W.Frag} {G : List PyData → List PyData → Option (List PyData × PyData)} (hG : ∀ i m : Int, 0 ≤ i → 0 ≤ m → m < 2147480009 → ∃ dd', G [.int i, .int m, .int 0] [] = some (dd', .bool true)) (vs : List V) (H : Hp) (Q : VK) (E : XK) (h : spLaw K vs H Q E) :
    tLaw K G { nx := fun _ H' => Q .non H', rt := Q } (start ["script", "spot"] vs) H := by
  obtain ⟨a, ns, rfl, hs, hz, ht, q⟩ := h
  refine ⟨_, rfl, a, _, rfl, .inl hs, ?_⟩
  refine ⟨4, _, rfl, ?_⟩
  refine ⟨1, _, rfl, ?_⟩
  have hn : ∀ l : Nat, ∃ k : Nat, k ≤ 4 ∧ (if (if ((l : Nat) : Int) < 4 then ((l : Nat) : Int) else 4) > 1 then (if ((l : Nat) : Int) < 4 then ((l : Nat) : Int) else 4) else 1) = ((k : Nat) : Int) := fun l => by
    by_cases h1 : ((l : Nat) : Int) < 4
    · rw [if_pos h1]
      by_cases h2 : ((l : Nat) : Int) > 1
      · rw [if_pos h2]
        exact ⟨l, by omega, rfl⟩
      · rw [if_neg h2]
        exact ⟨1, by omega, rfl⟩
    · rw [if_neg h1]
      exact ⟨4, by omega, rfl⟩
  obtain ⟨k, hk, ek⟩ := hn (ns.map V.int).length
  refine ⟨_, rfl, ?_, ?_, ?_⟩
  · rw [ek]; omega
  · rw [ek]; omega
  rw [ek]
  refine for_range (lo := 0) (n := ((k : Nat) : Int).toNat) (fun i σ H' => ∃ c : Option V, σ = [some (.ref a), c] ∧ Fr0 H H' ∧ LamX.Tabs TabOf.T H') ⟨none, rfl, Fr.refl, ht⟩ ?_ ?_
  · rintro i σ H' hi ⟨c, rfl, f, t⟩
    have hi4 : i ≤ 1000 := by
      rw [Int.toNat_natCast] at hi
      omega
    refine ⟨_, rfl, _, rfl, ?_⟩
    refine ⟨a, ns, i, (by rw [Int.zero_add]; rfl), N.SqL.fr0 f hs, hz, hi4, t, fun p H2 i0 m h0 h1 h2 f2 t2 hp hnew => ?_⟩
    obtain ⟨dd', eG⟩ := hG i0 m h0 h1 h2
    refine ⟨fun b => b = p, p, [.int i0, .int m, .int 0], [], [.int i0, .int m, .int 0], [], dd', .bool true, rfl, rfl, rfl, fun b (hb : b = p) => ⟨[.int i0, .int m, .int 0], by rw [hb]; exact hp⟩, t2, hp, .cons rfl (.cons rfl (.cons rfl .nil)), .nil, eG, ?_⟩
    intro v us' H3 f3 t3 hp3 _ rv
    have rv : v = .bl true := rv
    subst rv
    refine ⟨true, rfl, ?_⟩
    show if (!true) = true then _ else _
    rw [if_neg (by decide)]
    refine ⟨_, rfl, fun b u eb _ tb => ?_, t3⟩
    have e2 := f2 b u (f b u eb id tb) id tb
    refine f3 b u e2 (fun z => ?_) tb
    have z : b = p := z
    obtain ⟨ps, hps⟩ := hnew u (f p u (by rw [← z]; exact eb) id tb)
    exact tb ps hps
  · rintro σ H' ⟨c, rfl, f, t⟩
    exact q H'
end N

set_option Elab.async false
set_option linter.all false
set_option maxRecDepth 100000
set_option maxHeartbeats 4000000
/-! N19: dict of pairs whose keys are tuples; sorted of its keys. -/
namespace L2
open PySem PySem.Spec PyProof.Rows
/-- pairs merged into a dict of tuple keys -/
def mergeT (kvs more : List (List Key × V)) : List (List Key × V) := more.foldl (fun acc kv => putK acc kv.1 kv.2) kvs
theorem length_mergeT : ∀ (more kvs : List (List Key × V)), (mergeT kvs more).length ≤ kvs.length + more.length
  | [], kvs => Nat.le_refl _
  | q :: more, kvs => by
    show (mergeT (putK kvs q.1 q.2) more).length ≤ _
    have h1 := length_mergeT more (putK kvs q.1 q.2)
    have h2 := length_putK kvs q.1 q.2
    rw [List.length_cons]
    omega
theorem KT.merge {H : Hp} : ∀ {more : List (List Key × V)} {rs : List (List Key × Addr × Value)} {kvs : List (List Key × V)} {xs : List (List Key × Addr × Value)}, KT H more rs → KT H kvs xs → KT H (mergeT kvs more) (PySem.storedAllH xs rs)
  | _, _, kvs, xs, .nil, r => r
  | _, _, kvs, xs, .cons (a := p) (b := q) h t, r => by
    show KT H (mergeT (putK kvs p.1 p.2) _) (PySem.storedAllH (storedH xs q.1 q.2.1 q.2.2) _)
    refine KT.merge t ?_
    have z := KT.put r p.1 h.2.1 h.2.2
    rw [← h.1]
    exact z
/-- what dict(xs) asks: a list of pairs ((..), v) -/
def rDictT (K : PySem.W.Frag) : List V → Hp → VK → Prop := fun xs H Q => ∃ (a : Addr) (ps : List Addr) (its : List (List Key × Addr × V)), xs = [.ref a] ∧ SqL K H a (ps.map V.ref) ∧
  Paired (fun p it => H p = some (.tup [V.ref it.2.1, it.2.2]) ∧ H it.2.1 = some (.tup (it.1.map kV))) ps its ∧ ∀ d, H d = none → Q (.ref d) (upd H d (.dT (mergeT [] (its.map fun it => (it.1, it.2.2)))))
section
variable {X : Cx} {pins : List (Addr × Obj)} {σ : St} {H : Hp} {s : Shared}
theorem itemsT_of (I : Inv X pins σ H s) : ∀ {ps : List Addr} {its : List (List Key × Addr × V)}, Paired (fun p it => H p = some (.tup [V.ref it.2.1, it.2.2]) ∧ H it.2.1 = some (.tup (it.1.map kV))) ps its →
    ∃ rs : List (List Key × Addr × Value), KT H (its.map fun it => (it.1, it.2.2)) rs ∧ rs.length = ps.length ∧ ∀ (j : Nat) (q : List Key × Addr × Value), rs[j]? = some q → ∃ b : Addr, ps[j]? = some b ∧ PySem.PairAt s.heap b (.ref q.2.1) q.2.2
  | _, _, .nil => ⟨[], .nil, rfl, fun j q e => by simp at e⟩
  | _, _, .cons (a := p) (b := it) h t => by
    obtain ⟨rs, r, hl, hp⟩ := itemsT_of I t
    obtain ⟨us, rv, ht, _⟩ := I.tuple (xs := [V.ref it.2.1, it.2.2]) (.inl (.inl h.1))
    obtain ⟨u, y, ei, ru, ry⟩ := vals2 rv
    subst ei
    obtain rfl : u = Value.ref it.2.1 := ru
    refine ⟨(it.1, it.2.1, y) :: rs, .cons ⟨rfl, h.2, ry⟩ r, by rw [List.length_cons, List.length_cons, hl], fun j q e => ?_⟩
    cases j with
    | zero =>
      have e' : (it.1, it.2.1, y) = q := Option.some.inj e
      subst e'
      exact ⟨p, rfl, .inl ht⟩
    | succ j =>
      obtain ⟨b, e1, e2⟩ := hp j q (by simpa using e)
      exact ⟨b, by simpa using e1, e2⟩
theorem cr_dictT (hcalm : X.calm = true) (hu : X.A.units + 64 < cLine) : CallR X (.type "dict") (rDictT X.K) := by
  intro pins s σ H xs us Q I r q
  obtain ⟨a, ps, its, ex, hq, hp, q⟩ := q
  subst ex
  obtain ⟨u, eu, rx⟩ := vals1 r
  subst eu
  cases rx
  obtain ⟨vs, rv, pl, hz⟩ := I.list hq
  have ei := refs_at rv
  subst ei
  rw [List.length_map] at hz
  obtain ⟨rs, rel, hl, hpr⟩ := itemsT_of I hp
  obtain ⟨o, n, ho, hc, hd, hdat⟩ := pl
  have P := PySem.PairArg.list (prog := X.prog) (w := X.w) a (ps.map Value.ref).toArray (fun j => (ps[j]?).getD 0) (rs.map fun q => (Value.ref q.2.1, q.2.2))
  have isK : ∀ x ∈ rs, (tupleKind (mixKind X.prog X.w)).is s.heap x.1 x.2.1 := by
    have all : ∀ {l : List (List Key × V)} {m : List (List Key × Addr × Value)}, KT H l m → ∀ x ∈ m, (tupleKind (mixKind X.prog X.w)).is s.heap x.1 x.2.1 := by
      intro l m q
      induction q with
      | nil => intro x hx; exact nomatch hx
      | @cons p q ps qs hq t ih =>
        intro x hx
        rcases List.mem_cons.mp hx with e | hx
        · subst e
          exact key_of I.hok (by rw [← hq.1]; exact hq.2.1)
        · exact ih x hx
    exact all rel
  refine PySem.call_dict_pairsH (knd := tupleKind (mixKind X.prog X.w)) (ps := rs) P (I.ok.hd hcalm) ?_ ⟨⟨o, n, ho, hc, hd, hdat⟩, ?_, fun j k' v' h => ?_⟩ ⟨by rw [List.length_map], fun i key v h => ?_⟩ (fun h' hk' x hx => ?_) (by rw [List.length_map, hl]; exact hz) fun h' tk hd' k => ?_
  · show X.A.units + 1 + 1 < cLine
    omega
  · rw [List.length_map, List.size_toArray, List.length_map, hl]
  · rw [List.getElem?_map] at h
    cases e : rs[j]? with
    | none => rw [e] at h; cases h
    | some q' =>
      rw [e] at h
      cases h
      obtain ⟨b, e1, e2⟩ := hpr j q' e
      exact ⟨by simp [e1], by show PySem.PairAt s.heap ((ps[j]?).getD 0) _ _; rw [e1]; exact e2⟩
  · have h : (rs.map fun q => (Value.ref q.2.1, q.2.2))[i]? = some (key, v) := h
    rw [List.getElem?_map] at h
    cases e : rs[i]? with
    | none => rw [e] at h; cases h
    | some q' =>
      rw [e] at h
      cases h
      exact ⟨q'.1, q'.2.1, rfl, rfl⟩
  · exact PySem.tupleKind_stays.stays (fun b o' vs' n' e _ => hk' b o' (Nat.ne_of_lt (Heap.lt_size e)) (by simp) e) (isK x hx)
  · have hm : (s.heap.objs.size == sysModules) = false := beq_eq_false_iff_ne.mpr (Nat.ne_of_gt I.big)
    have hlen : (mergeT [] (its.map fun it => (it.1, it.2.2))).length ≤ sizeLine := by
      refine Nat.le_trans (length_mergeT _ []) ?_
      have z := Paired.length rel
      rw [List.length_nil, Nat.zero_add, z, hl]
      exact hz
    have kk : ∀ b u, s.heap.get? b = some u → h'.get? b = some u := fun b u e => k b u (by simp) e
    obtain ⟨o', es, ep, h1, h2, h3, h4, _, h5⟩ := hd'
    refine ⟨.ref s.heap.objs.size, upd H s.heap.objs.size (.dT (mergeT [] (its.map fun it => (it.1, it.2.2)))), I.laid (t' := tk) kk (Nat.le_refl _) ?_, rfl, q _ (I.hok.fresh (Nat.le_refl _))⟩
    refine ⟨hlen, hm, PySem.storedAllH [] rs, (KT.merge rel .nil).keeps fun b ys e => ?_, o', es, ep, h1, h2, h3, h4, h5⟩
    rw [upd_ne (ne_of_none e (I.hok.fresh (Nat.le_refl _)))]
    exact e
/-! ### sorted of a dict's keys -/
def kD : Key → PyData
  | .inl n => .int n
  | .inr x => .str x
def keyD (k : List Key) : PyData := .tuple (k.map kD)
theorem raw_src {prog : Program} {w : World} {d : Addr} {es : Array DictEntry} {ep : Nat} (lo : (d == sysModules) = false) : PySem.W.KdlSrc prog w "dict" d d es.size (fun i v => ∃ hi : i < es.size, v = es[i].key) (fun h => h.DictRaw d es ep) where
  type := fun _ hm => hm.typeIs
  there := fun _ hm => by
    obtain ⟨o, ho, _⟩ := hm
    exact ⟨Heap.lt_size ho, Heap.lt_size ho⟩
  keep := fun _ _ hm hk => hm.at fun o e => hk d (.inl rfl) o e
  notList := by decide
  notTuple := by decide
  hint := fun _ _ _ _ hm hq => PySem.W.kdl_hint_dict hm.typeIs hq
  iter := fun _ s hh hm => ⟨_, _, (fun _ _ hq => wpAny_pyIter_dict_raw lo hm hq), Walks.rawKeys hh _ d (by
    obtain ⟨o, ho, _⟩ := hm
    exact Nat.ne_of_lt (Heap.lt_size ho)) es ep, ⟨⟨_, Heap.get?_push_size _ rfl, rfl, rfl⟩, hm.at fun o e => Heap.get?_push_of_some _ e⟩⟩
def rSortDT : List V → Hp → VK → Prop := fun vs H Q => ∃ (a : Addr) (kvs : List (List Key × V)), vs = [V.ref a] ∧ H a = some (.dT kvs) ∧ PySem.W.AllAlike (kvs.map fun kv => keyD kv.1) ∧ PySem.W.Sortable (kvs.map fun kv => keyD kv.1) ∧ (∀ kv ∈ kvs, (keyD kv.1).depth ≤ 60) ∧
  ∀ (p : Addr) (bs : List (PyData × V)), H p = none → bs.map Prod.fst = (kvs.map fun kv => keyD kv.1) → (∀ b ∈ bs, ∃ (r : Addr) (k : List Key), b = (keyD k, V.ref r) ∧ H r = some (.tup (k.map kV))) → Q (.ref p) (upd H p (.lst ((bs.mergeSort (PySem.W.dataLe false Prod.fst)).map Prod.snd)))
theorem objOk_there {P : Program} {w : World} {H : Hp} {h : Heap} {a : Addr} {o : HO} (x : ObjOk P w H h a o) : ∃ ob, h.get? a = some ob := by
  cases o with
  | lst xs => obtain ⟨_, _, _, _, e⟩ := x; exact ⟨_, e⟩
  | tup xs => obtain ⟨_, _, _, ob, e, _⟩ := x; exact ⟨_, e⟩
  | dK kvs => obtain ⟨_, _, _, _, o, _, _, e, _⟩ := x; exact ⟨_, e⟩
  | dT kvs => obtain ⟨_, _, _, _, o, _, _, e, _⟩ := x; exact ⟨_, e⟩
  | set S n => obtain ⟨o, _, _, _, e, _⟩ := x; exact ⟨_, e⟩
  | ins C dx fs => obtain ⟨_, _, _, e, _⟩ := x; exact ⟨_, e⟩
  | own y => obtain ⟨_, e⟩ := x; exact ⟨_, e⟩
  | xd fs => obtain ⟨_, ⟨_, _, _, e, _⟩, _⟩ := x; exact ⟨_, e⟩
  | rng lo hi => obtain ⟨_, _, _, e⟩ := x; exact ⟨_, e⟩
  | frz ob u => obtain ⟨e, _⟩ := x; exact ⟨_, e⟩
  | tbl ps => exact ⟨_, show h.get? a = some _ from x⟩
  | met f y => exact ⟨_, show h.get? a = some _ from x⟩
  | ext φ => obtain ⟨_, ⟨_, e⟩, _⟩ := x; exact ⟨_, e⟩
/-- an object laid where nothing stood -/
theorem Inv.laid0 {X : Cx} {pins : List (Addr × Obj)} {σ : St} {H : Hp} {s : Shared} {h' : Heap} {a : Addr} {o : HO} {t' : Nat} (I : Inv X pins σ H s) (k : ∀ b u, s.heap.get? b = some u → h'.get? b = some u) (hp : s.heap.get? a = none) (hn : H a = none) (new : ObjOk X.prog X.w (upd H a o) h' a o) :
    Inv X pins σ (upd H a o) { s with heap := h', toks := t' } := by
  have U : Un X.fs [] H (upd H a o) s.heap h' := {
    keep := fun b u q _ _ _ => k b u q
    slot := fun b u q _ _ _ => ⟨u.slots, k b u q⟩
    free := fun b u q n _ => by
      rw [upd_ne (fun z => by rw [z, hp] at q; cases q)]
      exact n
    there := fun b u q _ => ⟨u, k b u q⟩
    tups := fun b xs q => by rw [upd_ne (ne_of_none q hn)]; exact q
    frzs := fun b u xs q => by rw [upd_ne (ne_of_none q hn)]; exact q
    tbls := fun b ps q => ⟨#[], by rw [upd_ne (ne_of_none q hn), q]; simp⟩ }
  refine I.un U fun b u e => ?_
  by_cases hb : b = a
  · subst hb
    rw [upd_same] at e
    cases e
    exact new
  · rw [upd_ne hb] at e
    exact (I.hok b u e).stay (fun c v _ q => k c v q) (fun c q => by rw [upd_ne (ne_of_none q hn)]; exact q) fun c xs q => by rw [upd_ne (ne_of_none q hn)]; exact q
theorem cr_sortDT (hc : X.calm = true) (hu : X.A.units + 64 < cLine) : CallR X (.builtin "sorted") rSortDT := by
  intro pins s σ H vs us Q I r h
  obtain ⟨a, kvs, rfl, hs, hal, hk, hd, q⟩ := h
  rw [Vals.ref1 r]
  obtain ⟨hz, lo, xs, rel, dd⟩ := dt_of I.hok hs
  have hlx : kvs.length = xs.length := Paired.length rel
  obtain ⟨es, ep, hraw, hes, hent⟩ := dd.raw
  -- the pairs (datum, value) of the keys
  let bs : List (PyData × V) := xs.map fun x => (keyD x.1, V.ref x.2.1)
  have hbs : bs.map Prod.fst = kvs.map fun kv => keyD kv.1 := by
    have all : ∀ {l : List (List Key × V)} {m : List (List Key × Addr × Value)}, KT H l m → (m.map fun x => (keyD x.1, V.ref x.2.1)).map Prod.fst = l.map fun kv => keyD kv.1 := by
      intro l m q
      induction q with
      | nil => rfl
      | @cons p q ps qs hq t ih =>
        rw [List.map_cons, List.map_cons, List.map_cons, ih, hq.1]
    exact all rel
  have hrep : ∀ b ∈ bs, ∃ (r : Addr) (k : List Key), b = (keyD k, V.ref r) ∧ H r = some (.tup (k.map kV)) := fun b hb => by
    obtain ⟨x, hx, e⟩ := List.mem_map.mp hb
    have all : ∀ {l : List (List Key × V)} {m : List (List Key × Addr × Value)}, KT H l m → ∀ x ∈ m, H x.2.1 = some (.tup (x.1.map kV)) := by
      intro l m q
      induction q with
      | nil => intro x hx; exact nomatch hx
      | @cons p q ps qs hq t ih =>
        intro x hx
        rcases List.mem_cons.mp hx with e | hx
        · subst e
          rw [← hq.1]
          exact hq.2.1
        · exact ih x hx
    exact ⟨x.2.1, x.1, e.symm, all rel x hx⟩
  have dpb : ∀ b ∈ bs, Dp X.K H b.2 b.1 := fun b hb => by
    obtain ⟨r, k, e, hr⟩ := hrep b hb
    subst e
    refine .tup (.inl (.inl hr)) ?_
    have go : ∀ k : List Key, DpAll X.K H (k.map kV) (k.map kD) := by
      intro k
      induction k with
      | nil => exact .nil
      | cons c k ih =>
        cases c with
        | inl n => exact .cons (.int n) ih
        | inr x => exact .cons (.str x) ih
    exact go k
  let vsL : List Value := xs.map fun x => Value.ref x.2.1
  have rv : Vals (bs.map Prod.snd) vsL := by
    have go : ∀ m : List (List Key × Addr × Value), Vals ((m.map fun x => (keyD x.1, V.ref x.2.1)).map Prod.snd) (m.map fun x => Value.ref x.2.1) := by
      intro m
      induction m with
      | nil => exact .nil
      | cons x m ih => exact .cons rfl ih
    exact go xs
  letI : N.TabOf := ⟨[]⟩
  obtain ⟨e1, e2⟩ := N.each_pairs I rv dpb
  have hL : vsL.length ≤ sizeLine := by
    rw [List.length_map, ← hlx]
    exact hz
  refine PyProof.Rows.call_function_entry_kw PyProof.Rows.kind_sorted PyProof.Rows.plain_sorted PyProof.Rows.entry_sorted (PyProof.Rows.args_sorted1 _) ?_
  unfold Builtin.«sorted»
  refine wpAny_bind (m := checkCount "sorted" 1 1 _) (wpAny_pure ?_)
  refine wpAny_bind (PySem.W.kdu_collect (A := X.A.in1) (raw_src lo) (I.ok.hd hc) hraw (by rw [hes, ← hlx]; exact hz) fun h' tk acc hk' hacc => ?_)
  have eacc : acc.toList = vsL := by
    refine List.ext_getElem? fun j => ?_
    rw [Array.getElem?_toList]
    by_cases hj : j < xs.length
    · obtain ⟨v, hv⟩ : ∃ v, acc[j]? = some v := ⟨acc[j]'(by rw [hacc.1, hes]; exact hj), Array.getElem?_eq_getElem (by rw [hacc.1, hes]; exact hj)⟩
      obtain ⟨hi, ev⟩ := hacc.2 j v hv
      obtain ⟨y, y1, y2, _⟩ := hent j hi
      rw [hv, ev, y2]
      show _ = (xs.map fun x => Value.ref x.2.1)[j]?
      rw [List.getElem?_map, y1]
      rfl
    · rw [Array.getElem?_eq_none (by rw [hacc.1, hes]; omega)]
      exact (List.getElem?_eq_none (by rw [List.length_map]; omega)).symm
  rw [eacc]
  refine wpAny_bind (wpAny_newList ?_ hL)
  have at1 : (h'.push (seqObj "list" vsL.toArray 0)).get? h'.objs.size = some (seqObj "list" vsL.toArray 0) := Heap.get?_push_size _ rfl
  have old : ∀ b o, s.heap.get? b = some o → b ≠ h'.objs.size ∧ (h'.push (seqObj "list" vsL.toArray 0)).get? b = some o := fun b o e => ⟨Nat.ne_of_lt (Heap.lt_size (hk' b o e)), Heap.get?_push_of_some _ (hk' b o e)⟩
  refine wpAny_bind (wpAny_holding (PyProof.Rows.wpAny_call_entry_kw PyProof.Rows.slot_list_sort ⟨_, at1, rfl⟩ PyProof.Rows.entry_list_sort ?body (PyProof.Rows.args_list_sort _)))
  case body =>
    have er' : PySem.W.EachIs (fun v (b : PyData × V) => ∃ as, Reads (PySem.W.sortingHeap (h'.push (seqObj "list" vsL.toArray 0)) h'.objs.size vsL) v b.1 as) vsL bs := e2.mono fun _ _ ⟨as, r⟩ => ⟨as, PyProof.Rows.Reads.keeps (fun b o e => PySem.W.sortingHeap_old (old b o e).1 (old b o e).2) r⟩
    have S := PySem.W.SortsAt.data (prog := X.prog) (w := X.w) (A := X.A.in1.in1) (s := { s with heap := PySem.W.sortingHeap (h'.push (seqObj "list" vsL.toArray 0)) h'.objs.size vsL, toks := tk }) (PySem.W.each_map (R := fun v d => ∃ as, Reads (PySem.W.sortingHeap (h'.push (seqObj "list" vsL.toArray 0)) h'.objs.size vsL) v d as) Prod.fst er') (by rw [hbs]; exact hal) (by rw [hbs]; exact hk)
      (fun d' hd' => by
        rw [hbs] at hd'
        obtain ⟨kv, hkv, e⟩ := List.mem_map.mp hd'
        have z := hd kv hkv
        rw [e] at z
        show X.A.units + 1 + 1 + d'.depth < cLine
        omega)
    show wpAny (model X.prog X.w) X.A.in1.in1 (Builtin.«list.sort» ⟨[.ref h'.objs.size], []⟩) _ _ _
    refine PySem.W.list_sort_vals (s := { s with heap := h'.push (seqObj "list" vsL.toArray 0), toks := tk }) at1 S hL ⟨_, rfl, ?_⟩
    refine wpAny_pure ⟨_, rfl, ?_⟩
    have he := PySem.W.sortVals_data (h' := PySem.W.sortingHeap (h'.push (seqObj "list" vsL.toArray 0)) h'.objs.size vsL) (R := fun v (b : PyData × V) => RelV b.2 v) (enc := Prod.fst) false e1 er' (by rw [hbs]; exact hal)
    obtain ⟨ep2, hat⟩ := PyProof.Rows.sortedHeap_at (out := (PySem.W.sortVals (PySem.W.dataKind (PySem.W.sortingHeap (h'.push (seqObj "list" vsL.toArray 0)) h'.objs.size vsL) (bs.map Prod.fst)) false vsL vsL).toArray) at1
    have hfree : s.heap.get? h'.objs.size = none := by
      cases e : s.heap.get? h'.objs.size with
      | none => rfl
      | some o => exact absurd (Heap.lt_size (hk' _ _ e)) (Nat.lt_irrefl _)
    have hnone : H h'.objs.size = none := by
      cases e : H h'.objs.size with
      | none => rfl
      | some u =>
        obtain ⟨o, q⟩ := objOk_there (I.hok _ _ e)
        rw [hfree] at q
        cases q
    have hlen : ((bs.mergeSort (PySem.W.dataLe false Prod.fst)).map Prod.snd).length ≤ sizeLine := by
      rw [List.length_map, List.length_mergeSort, List.length_map, ← hlx]
      exact hz
    have keepH : ∀ b o, s.heap.get? b = some o → (PyProof.Rows.sortedHeap (h'.push (seqObj "list" vsL.toArray 0)) h'.objs.size vsL (PySem.W.sortVals (PySem.W.dataKind (PySem.W.sortingHeap (h'.push (seqObj "list" vsL.toArray 0)) h'.objs.size vsL) (bs.map Prod.fst)) false vsL vsL).toArray).get? b = some o := fun b o e => by
      rw [PyProof.Rows.sortedHeap_old (old b o e).1 (Heap.lt_size (old b o e).2)]
      exact (old b o e).2
    exact ⟨.ref h'.objs.size, upd H h'.objs.size (.lst _), I.laid0 (t' := tk) keepH hfree hnone ⟨hlen, _, ep2, N.vals_of_each he, hat⟩, rfl, q _ bs hnone hbs hrep⟩
end
end L2

set_option Elab.async false
set_option linter.all false
set_option maxRecDepth 100000
set_option maxHeartbeats 4000000
/-! N20: ties = dict([..]); return (many, tuple(sorted(ties))). -/
namespace N
open PySem PySem.Spec PyProof.Rows L2
/-- a key in the data -/
def keyOfD : PyData → Option (List Key)
  | .tuple [.tuple [.int a, .int b], _] => some [.inl a, .inl b]
  | _ => none
def keysOf : List PyData → Option (List (List Key))
  | [] => some []
  | d :: ds => (keyOfD d).bind fun k => (keysOf ds).map fun ks => k :: ks
def onceK (ks : List (List Key)) : List (List Key) := ks.foldl (fun acc k => if (acc.any fun x => decide (x = k)) = true then acc else acc ++ [k]) []
theorem fst_putK (kvs : List (List Key × V)) (k : List Key) (v : V) : (putK kvs k v).map (·.1) = if ((kvs.map (·.1)).any fun x => decide (x = k)) = true then kvs.map (·.1) else kvs.map (·.1) ++ [k] := by
  unfold putK
  rw [List.any_map]
  have e : ((fun x => decide (x = k)) ∘ fun (kv : List Key × V) => kv.1) = fun kv => decide (kv.1 = k) := rfl
  rw [e]
  split
  · rw [List.map_map]
    refine List.map_congr_left fun kv _ => ?_
    show (if kv.1 = k then (kv.1, v) else kv).1 = kv.1
    split <;> rfl
  · rw [List.map_append]
    rfl
theorem fst_mergeT (more : List (List Key × V)) : (mergeT [] more).map (·.1) = onceK (more.map (·.1)) := by
  have go : ∀ (more kvs : List (List Key × V)), (mergeT kvs more).map (·.1) = (more.map (·.1)).foldl (fun acc k => if (acc.any fun x => decide (x = k)) = true then acc else acc ++ [k]) (kvs.map (·.1)) := by
    intro more
    induction more with
    | nil => exact fun _ => rfl
    | cons q more ih =>
      intro kvs
      show (mergeT (putK kvs q.1 q.2) more).map (·.1) = _
      rw [ih, fst_putK]
      rfl
  exact go more []
def sWeb (F : FE) : FS := fun en => (F en).bind fun p => match p.1 with
  | .list ds => (keysOf ds).bind fun ks => (fVar 0 p.2).bind fun q => if (isPlain p.2[2]? && sortB ((onceK ks).map keyD)) = true ∧ (onceK ks).length ≤ 100000 then some (.rt (.tuple [q.1, .tuple (((onceK ks).map keyD).mergeSort (PySem.W.dataLe false id))]) (p.2.set 2 .no)) else none
  | _ => none
variable [TabOf]
theorem keyOfD_rep {M : Addr → Prop} {H : Hp} {d : PyData} {v : V} {k : List Key} (h : Rep M H d v) (e : keyOfD d = some k) : ∃ (p b : Addr) (u : V), v = .ref p ∧ H p = some (.tup [V.ref b, u]) ∧ H b = some (.tup (k.map kV)) := by
  unfold keyOfD at e
  split at e
  · rename_i a b x
    cases e
    obtain ⟨p, vs, rfl, _, hp, r⟩ := h
    obtain ⟨v1, r1, rfl, h1, h2⟩ := r
    obtain ⟨v2, r2, rfl, h3, h4⟩ := h2
    have h4 : r2 = [] := h4
    subst h4
    obtain ⟨b', ws, rfl, _, hb, rb⟩ := h1
    obtain ⟨w1, q1, rfl, g1, g2⟩ := rb
    obtain ⟨w2, q2, rfl, g3, g4⟩ := g2
    have g4 : q2 = [] := g4
    subst g4
    have g1 : w1 = .int a := g1
    have g3 : w2 = .int b := g3
    subst g1 g3
    exact ⟨p, b', v2, rfl, hp, hb⟩
  · cases e
theorem keysOf_rep {M : Addr → Prop} {H : Hp} : ∀ {ds : List PyData} {vs : List V} {ks : List (List Key)}, Reps M H ds vs → keysOf ds = some ks →
    ∃ (ps : List Addr) (its : List (List Key × Addr × V)), vs = ps.map V.ref ∧ its.map (·.1) = ks ∧ Paired (fun p it => H p = some (.tup [V.ref it.2.1, it.2.2]) ∧ H it.2.1 = some (.tup (it.1.map kV))) ps its
  | [], _, ks, h, e => by
    cases (show _ = _ from h)
    cases e
    exact ⟨[], [], rfl, rfl, .nil⟩
  | d :: ds, _, ks, h, e => by
    obtain ⟨v, r, rfl, h1, h2⟩ := h
    unfold keysOf at e
    cases e1 : keyOfD d with
    | none => rw [e1] at e; cases e
    | some k =>
      rw [e1] at e
      simp only [Option.bind_some] at e
      cases e2 : keysOf ds with
      | none => rw [e2] at e; cases e
      | some ks' =>
        rw [e2] at e
        cases e
        obtain ⟨ps, its, a1, a2, a3⟩ := keysOf_rep h2 e2
        obtain ⟨p, b, u, b1, b2, b3⟩ := keyOfD_rep h1 e1
        exact ⟨p :: ps, (k, b, u) :: its, by rw [a1, b1]; rfl, by rw [List.map_cons, a2], .cons ⟨b2, b3⟩ a3⟩
theorem s_web {C : Addr} {E : XK} {K : PySem.W.Frag} {tl : TE} {F : FE} (hl : Ev tl F) : EvS true C E (tSeq (tAsg (tCB (rDictT K) (tCons tl tNil)) (gName 2)) (tRet (tTup (tCons (tVar 0) (tCons (tCB (rTupS K) (tCons (tCB rSortDT (tCons (tVar 2) tNil)) tNil)) tNil))))) (sWeb F) := fun w en σ H out o hh D hpb e Dn p => by
  unfold sWeb at e
  cases e1 : F en with
  | none => rw [e1] at e; cases e
  | some q1 =>
    rw [e1] at e
    obtain ⟨d, ea⟩ := q1
    simp only [Option.bind_some] at e
    cases d with
    | list ds =>
      simp only at e
      cases e2 : keysOf ds with
      | none => rw [e2] at e; cases e
      | some ks =>
        rw [e2] at e
        simp only [Option.bind_some] at e
        cases e3 : fVar 0 ea with
        | none => rw [e3] at e; cases e
        | some q =>
          rw [e3] at e
          simp only [Option.bind_some] at e
          split at e
          · rename_i hc
            cases e
            obtain ⟨hc, hlen⟩ := hc
            obtain ⟨c1, c2⟩ := Bool.and_eq_true_iff.mp hc
            obtain ⟨s1, s2, s3⟩ := sortB_ok c2
            unfold fVar at e3
            split at e3
            · rename_i dm em
              cases e3
              refine hl w en σ H _ _ o e1 _ fun v H1 f1 o1 r1 => ?_
              obtain ⟨a, vs, rfl, na, ha, rr⟩ := r1
              obtain ⟨ps, its, a1, a2, a3⟩ := keysOf_rep rr e2
              subst a1
              refine ⟨a, ps, its, rfl, SqL.of ha, a3, fun dd hd => ?_⟩
              have ek : (mergeT [] (its.map fun it => (it.1, it.2.2))).map (·.1) = onceK ks := by
                rw [fst_mergeT, List.map_map, ← a2]
                rfl
              have ekd : (mergeT [] (its.map fun it => (it.1, it.2.2))).map (fun kv => keyD kv.1) = (onceK ks).map keyD := by
                rw [← ek, List.map_map]
                rfl
              generalize hkv : mergeT [] (its.map fun it => (it.1, it.2.2)) = kvs at ek ekd
              have sm : Same H1 (upd H1 dd (.dT kvs)) := same_upd hd
              have has : w.as[2]? = some [] := o1.plain c1
              have h2l : 2 < σ.length := by
                rw [o1.ls, ← o1.la]
                exact get_lt has
              have o2 := (o1.same sm).unset has (some (.ref dd))
              have hdd : upd H1 dd (.dT kvs) dd = some (.dT kvs) := upd_same
              generalize upd H1 dd (.dT kvs) = H2 at sm o2 hdd
              obtain ⟨vm, em2, rm⟩ := o2.at (i := 0) (d := dm) (by rw [List.getElem?_set_ne (by decide)]; exact em)
              refine ⟨vm, em2, .ref dd, List.getElem?_set_self h2l, ?_⟩
              refine ⟨dd, kvs, rfl, hdd, by rw [ekd]; exact s1, by rw [ekd]; exact s2, fun kv hkv => s3 _ (by rw [← ekd]; exact List.mem_map_of_mem (f := fun kv => keyD kv.1) hkv), fun p2 bs hp2 hbs hrep => ?_⟩
              refine ⟨p2, _, rfl, .inl ⟨SqL.of upd_same, fun l hl => ?_⟩⟩
              have sm2 : Same H2 (upd H2 p2 (.lst ((bs.mergeSort (PySem.W.dataLe false Prod.fst)).map Prod.snd))) := same_upd hp2
              generalize upd H2 p2 (.lst ((bs.mergeSort (PySem.W.dataLe false Prod.fst)).map Prod.snd)) = H3 at sm2 hl
              have sm3 : Same H3 (upd H3 l (.tup ((bs.mergeSort (PySem.W.dataLe false Prod.fst)).map Prod.snd))) := same_upd hl
              have hll : upd H3 l (.tup ((bs.mergeSort (PySem.W.dataLe false Prod.fst)).map Prod.snd)) l = some (.tup ((bs.mergeSort (PySem.W.dataLe false Prod.fst)).map Prod.snd)) := upd_same
              generalize upd H3 l (.tup ((bs.mergeSort (PySem.W.dataLe false Prod.fst)).map Prod.snd)) = H4 at sm3 hll
              refine ⟨by show 2 ≤ sizeLine; decide, fun t ht => ?_⟩
              have sm4 : Same H4 (upd H4 t (.tup [vm, .ref l])) := same_upd ht
              have s24 : Same H2 (upd H4 t (.tup [vm, .ref l])) := fun b u eb => sm4 _ _ (sm3 _ _ (sm2 _ _ eb))
              have o5 := o2.same s24
              have notM : ∀ b xs, (upd H4 t (.tup [vm, .ref l])) b = some (.tup xs) → ¬ w.M b := fun b xs eb z => by
                obtain ⟨us, q⟩ := o5.dom b z
                rw [eb] at q
                cases q
              have mc : ∀ b, w.Mc b → w.M b := fun b z => .inl z
              refine p w (.ref t) _ _ (.refl w) o5 ⟨t, _, rfl, fun z => notM t _ upd_same (mc t z), upd_same, .cons (Rep.weak mc _ _ (Rep.fr (Fr.of s24) _ _ rm)) (.cons ?_ .nil)⟩
              refine ⟨l, _, rfl, fun z => notM l _ (sm4 _ _ hll) (mc l z), sm4 _ _ hll, ?_⟩
              have e4 : ((onceK ks).map keyD).mergeSort (PySem.W.dataLe false id) = (bs.mergeSort (PySem.W.dataLe false Prod.fst)).map Prod.fst := by
                have z := List.map_mergeSort (r := PySem.W.dataLe false Prod.fst) (s := PySem.W.dataLe false id) (f := Prod.fst) (l := bs) (fun a _ b _ => rfl)
                rw [z, hbs, ekd]
              rw [e4]
              refine reps_pairs fun b hb => ?_
              obtain ⟨r, k, eb, hr⟩ := hrep b (List.mem_mergeSort.mp hb)
              subst eb
              refine ⟨r, k.map kV, rfl, fun z => notM r _ (s24 _ _ hr) (mc r z), s24 _ _ hr, ?_⟩
              have go : ∀ k : List Key, Reps w.Mc (upd H4 t (.tup [vm, .ref l])) (k.map kD) (k.map kV) := by
                intro k
                induction k with
                | nil => exact .nil
                | cons c k ih =>
                  cases c with
                  | inl n => exact .cons rfl ih
                  | inr x => exact .cons rfl ih
              exact go k
            · cases e3
          · cases e
    | _ => cases e
end N

set_option Elab.async false
set_option linter.all false
set_option maxRecDepth 100000
set_option maxHeartbeats 4000000
/-! M1: how the plain functions are reckoned. -/
namespace N
open PySem
section
variable {en : En} {i : Nat} {Fa Fb Fc Fd F : FE} {A B : FB} {L : FA} {S1 S2 : FS} {d : PyData}
@[simp] theorem fVar_e : fVar i en = (match en[i]? with | some (.im d) => some (d, en) | _ => none) := rfl
@[simp] theorem fMu_e : fMu i en = (match en[i]? with | some (.mu ds) => some (.list ds, en) | _ => none) := rfl
@[simp] theorem fC_e : fC d en = some (d, en) := rfl
@[simp] theorem fOp_e {g : PyData → PyData → Option PyData} : fOp g Fa Fb en = (Fa en).bind fun p => (Fb p.2).bind fun q => (g p.1 q.1).map fun z => (z, q.2) := rfl
@[simp] theorem fUn_e {g : PyData → Option PyData} : fUn g Fa en = (Fa en).bind fun p => (g p.1).map fun z => (z, p.2) := rfl
def toB : PyData → Option Bool
  | .bool b => some b
  | _ => none
@[simp] theorem toB_e {b : Bool} : toB (.bool b) = some b := rfl
@[simp] theorem fB_e : fB F en = (F en).bind fun p => (toB p.1).map fun b => (b, p.2) := by
  unfold fB
  cases F en with
  | none => rfl
  | some p =>
    obtain ⟨d, e⟩ := p
    cases d <;> rfl
@[simp] theorem fAnd_e : fAnd A B en = (A en).bind fun p => if p.1 = true then B p.2 else some (false, p.2) := rfl
@[simp] theorem fOr_e : fOr A B en = (A en).bind fun p => if p.1 = true then some (true, p.2) else B p.2 := rfl
@[simp] theorem fNot_e : fNot A en = (A en).map fun p => (!p.1, p.2) := rfl
@[simp] theorem fIf_e : fIf A Fa Fb en = (A en).bind fun p => if p.1 = true then Fa p.2 else Fb p.2 := rfl
@[simp] theorem fNil_e : fNil en = some ([], en) := rfl
@[simp] theorem fCons_e : fCons Fa L en = (Fa en).bind fun p => (L p.2).map fun q => (p.1 :: q.1, q.2) := rfl
@[simp] theorem fTup_e : fTup L en = (L en).map fun p => (.tuple p.1, p.2) := rfl
@[simp] theorem fLst_e : fLst L en = (L en).map fun p => (.list p.1, p.2) := rfl
@[simp] theorem fCB_e {g : List PyData → Option PyData} : fCB g L en = (L en).bind fun p => (g p.1).map fun z => (z, p.2) := rfl
@[simp] theorem fAndV_e : fAndV Fa Fb en = (fB Fa en).bind fun p => if p.1 = true then Fb p.2 else some (.bool false, p.2) := rfl
@[simp] theorem fOrV_e : fOrV Fa Fb en = (fB Fa en).bind fun p => if p.1 = true then some (.bool true, p.2) else Fb p.2 := rfl
@[simp] theorem fNotV_e : fNotV Fa en = (fB Fa en).map fun p => (.bool !p.1, p.2) := rfl
@[simp] theorem fYes_e : fYes en = some (true, en) := rfl
@[simp] theorem okOf_ok : okOf (some (.ok d)) = some d := rfl
@[simp] theorem fCall_e {G : List PyData → Option Res} : fCall G L en = (L en).bind fun p => (okOf (G p.1)).map fun d => (d, p.2) := rfl
@[simp] theorem fChain_e {g g' : PyData → PyData → Option PyData} : fChain g g' Fa Fb Fc en = (Fa en).bind fun p => (Fb p.2).bind fun q => ((g p.1 q.1).bind toB).bind fun b => if b = true then (Fc q.2).bind fun s => (g' q.1 s.1).map fun z => (z, s.2) else some (.bool false, q.2) := by
  unfold fChain
  cases Fa en with
  | none => rfl
  | some p =>
    simp only [Option.bind_some]
    cases Fb p.2 with
    | none => rfl
    | some q =>
      simp only [Option.bind_some]
      cases g p.1 q.1 with
      | none => rfl
      | some z =>
        cases z with
        | bool b => cases b <;> rfl
        | _ => rfl
@[simp] theorem fChain3_e {g g' g'' : PyData → PyData → Option PyData} : fChain3 g g' g'' Fa Fb Fc Fd en = (Fa en).bind fun p => (Fb p.2).bind fun q => ((g p.1 q.1).bind toB).bind fun b => if b = true then (Fc q.2).bind fun s => ((g' q.1 s.1).bind toB).bind fun c => if c = true then (Fd s.2).bind fun t => (g'' s.1 t.1).map fun z => (z, t.2) else some (.bool false, s.2) else some (.bool false, q.2) := by
  unfold fChain3
  cases Fa en with
  | none => rfl
  | some p =>
    simp only [Option.bind_some]
    cases Fb p.2 with
    | none => rfl
    | some q =>
      simp only [Option.bind_some]
      cases g p.1 q.1 with
      | none => rfl
      | some z =>
        cases z with
        | bool b =>
          cases b
          · rfl
          · simp only [Option.bind_some, toB_e, if_true]
            cases Fc q.2 with
            | none => rfl
            | some s =>
              simp only [Option.bind_some]
              cases g' q.1 s.1 with
              | none => rfl
              | some z =>
                cases z with
                | bool c => cases c <;> rfl
                | _ => rfl
        | _ => rfl
def seqOf : PyData → Option (List PyData)
  | .list ds => some ds
  | .tuple ds => some ds
  | _ => none
@[simp] theorem seqOf_l {ds : List PyData} : seqOf (.list ds) = some ds := rfl
@[simp] theorem seqOf_t {ds : List PyData} : seqOf (.tuple ds) = some ds := rfl
@[simp] theorem fSeq_e : fSeq F en = (F en).bind fun p => (seqOf p.1).bind fun ds => if ds.length ≤ 100000 then some (ds, p.2) else none := by
  unfold fSeq
  cases F en with
  | none => rfl
  | some p =>
    obtain ⟨d, e⟩ := p
    cases d <;> rfl
def toI : PyData → Option Int
  | .int i => some i
  | _ => none
@[simp] theorem toI_e {n : Int} : toI (.int n) = some n := rfl
@[simp] theorem fRg1_e : fRg1 F en = (F en).bind fun p => (toI p.1).bind fun n => if rgOk 0 n = true then some (rngD 0 n.toNat, p.2) else none := by
  unfold fRg1
  cases F en with
  | none => rfl
  | some p =>
    obtain ⟨d, e⟩ := p
    cases d <;> rfl
def toI2 : List PyData → Option (Int × Int)
  | [.int a, .int b] => some (a, b)
  | _ => none
@[simp] theorem toI2_e {a b : Int} : toI2 [.int a, .int b] = some (a, b) := rfl
@[simp] theorem fRg2_e : fRg2 L en = (L en).bind fun p => (toI2 p.1).bind fun q => if rgOk q.1 q.2 = true then some (rngD q.1 (q.2 - q.1).toNat, p.2) else none := by
  unfold fRg2
  cases L en with
  | none => rfl
  | some p =>
    obtain ⟨ds, e⟩ := p
    simp only [Option.bind_some]
    rcases ds with _ | ⟨a, _ | ⟨b, _ | ⟨c, r⟩⟩⟩
    · rfl
    · cases a <;> rfl
    · cases a <;> first | rfl | (cases b <;> rfl)
    · cases a <;> first | rfl | (cases b <;> rfl)
@[simp] theorem tgN_e : tgN i d en = if isPlain en[i]? = true then some (en.set i (.im d)) else none := rfl
@[simp] theorem isPlain_im : isPlain (some (.im d)) = true := rfl
@[simp] theorem isPlain_no : isPlain (some .no) = true := rfl
@[simp] theorem isPlain_mu {ds : List PyData} : isPlain (some (.mu ds)) = false := rfl
@[simp] theorem isPlain_m2 {ds : List (List PyData)} : isPlain (some (.m2 ds)) = false := rfl
@[simp] theorem tgT_e {is : List Nat} {ds : List PyData} : tgT is (.tuple ds) en = tgL is ds en := rfl
@[simp] theorem tgL_nil : tgL [] [] en = some en := rfl
@[simp] theorem tgL_cons {is : List Nat} {ds : List PyData} : tgL (i :: is) (d :: ds) en = (tgN i d en).bind fun e => tgL is ds e := rfl
@[simp] theorem wipeE_nil : wipeE en [] = en := rfl
@[simp] theorem wipeE_cons {v : Nat} {vs : List Nat} : wipeE en (v :: vs) = (wipeE en vs).set v .no := rfl
@[simp] theorem restore_nil {e0 : En} : restore en e0 [] = en := rfl
@[simp] theorem restore_cons {e0 : En} {v : Nat} {vs : List Nat} : restore en e0 (v :: vs) = (match e0[v]? with | some s => (restore en e0 vs).set v s | none => restore en e0 vs) := rfl
@[simp] theorem ownOk_nil : ownOk en [] = true := rfl
@[simp] theorem ownOk_cons {v : Nat} {vs : List Nat} : ownOk en (v :: vs) = (isPlain en[v]? && ownOk en vs) := rfl
/-- one turn of a comprehension -/
def lcStep (tg : FG) (ft : FB) (fe : FE) (vs : List Nat) (d : PyData) (e : En) : Option (Option PyData × En) := (tg d e).bind fun e1 => (ft e1).bind fun q => if q.1 = true then (fe q.2).map fun y => (some y.1, wipeE y.2 vs) else some (none, wipeE q.2 vs)
theorem lcGo_step {tg : FG} {ft : FB} {fe : FE} {vs : List Nat} {ds : List PyData} {e : En} : lcGo tg ft fe vs (d :: ds) e = (lcStep tg ft fe vs d e).bind fun r => (lcGo tg ft fe vs ds r.2).map fun s => (r.1.toList ++ s.1, s.2) := by
  unfold lcStep
  show (tg d e).bind _ = _
  cases tg d e with
  | none => rfl
  | some e1 =>
    simp only [Option.bind_some]
    cases ft e1 with
    | none => rfl
    | some q =>
      simp only [Option.bind_some]
      split
      · cases fe q.2 with
        | none => rfl
        | some y =>
          simp only [Option.bind_some, Option.map_some]
          rfl
      · simp only [Option.bind_some]
        cases lcGo tg ft fe vs ds (wipeE q.2 vs) <;> rfl
/-- a comprehension that leaves the state as it is -/
theorem lcGo_pure {α : Type} {tg : FG} {ft : FB} {fe : FE} {vs : List Nat} {e : En} {enc : α → PyData} {r : α → Option PyData} : ∀ {xs : List α}, (∀ x ∈ xs, lcStep tg ft fe vs (enc x) e = some (r x, e)) → lcGo tg ft fe vs (xs.map enc) e = some (xs.filterMap r, e)
  | [], _ => rfl
  | x :: xs, h => by
    rw [List.map_cons, lcGo_step, h x List.mem_cons_self, Option.bind_some, lcGo_pure fun y hy => h y (List.mem_cons_of_mem _ hy), List.filterMap_cons]
    cases r x <;> rfl
theorem lcGo_map {α : Type} {tg : FG} {ft : FB} {fe : FE} {vs : List Nat} {e : En} {enc : α → PyData} {f : α → PyData} {xs : List α} (h : ∀ x ∈ xs, lcStep tg ft fe vs (enc x) e = some (some (f x), e)) : lcGo tg ft fe vs (xs.map enc) e = some (xs.map f, e) := by
  rw [lcGo_pure h]
  congr 2
  show xs.filterMap (some ∘ f) = _
  rw [List.filterMap_eq_map]
theorem lcGo_filter {α : Type} {tg : FG} {ft : FB} {fe : FE} {vs : List Nat} {e : En} {enc : α → PyData} {f : α → PyData} {p : α → Bool} {xs : List α} (h : ∀ x ∈ xs, lcStep tg ft fe vs (enc x) e = some (if p x = true then some (f x) else none, e)) : lcGo tg ft fe vs (xs.map enc) e = some ((xs.filter p).map f, e) := by
  rw [lcGo_pure h]
  congr 2
  clear h
  induction xs with
  | nil => rfl
  | cons x xs ih =>
    rw [List.filterMap_cons, List.filter_cons]
    split
    · rename_i c
      split
      · rename_i c2
        rw [if_pos c2] at c
        cases c
      · exact ih
    · rename_i c
      split
      · rename_i c2
        rw [if_pos c2] at c
        cases c
        rw [List.map_cons, ih]
      · rename_i c2
        rw [if_neg c2] at c
        cases c
@[simp] theorem fLc_e {I : FA} {tg : FG} {ft : FB} {fe : FE} {vs : List Nat} : fLc I tg ft fe vs en = (I en).bind fun p => if ownOk p.2 vs = true then (lcGo tg ft fe vs p.1 (wipeE p.2 vs)).map fun r => (.list r.1, restore r.2 p.2 vs) else none := rfl
/-! statements -/
@[simp] theorem sNext_e : sNext en = some (.nx en) := rfl
@[simp] theorem sSeq_e : sSeq S1 S2 en = (S1 en).bind fun o => match o with | .nx e => S2 e | o => some o := rfl
@[simp] theorem sIf_e : sIf A S1 S2 en = (A en).bind fun p => if p.1 = true then S1 p.2 else S2 p.2 := rfl
@[simp] theorem sRet_e : sRet F en = (F en).map fun p => .rt p.1 p.2 := rfl
@[simp] theorem sAsg_e {tg : FG} : sAsg F tg en = (F en).bind fun p => (tg p.1 p.2).map .nx := rfl
@[simp] theorem sDrop_e : sDrop F en = (F en).map fun p => .nx p.2 := rfl
@[simp] theorem resOf_rt {e : En} : resOf (some (.rt d e)) = some (.ok d) := rfl
@[simp] theorem resOf_nx {e : En} : resOf (some (.nx e)) = some (.ok .none) := rfl
@[simp] theorem resOf_ex {x : Str} {e : En} : resOf (some (.ex x e)) = some (.bad x) := rfl
end
theorem shI (i : Int) : SeqAt.shaped (.int i) = true := rfl
theorem eqvI (i j : Int) : PyData.eqv (.int i) (.int j) = decide (i = j) := by
  show (i == j) = _
  by_cases h : i = j
  · subst h
    simp
  · simp [h]
@[simp] theorem gEqI {i j : Int} : gEq (.int i) (.int j) = some (.bool (decide (i = j))) := by
  unfold gEq
  rw [shI, shI, eqvI]
  rfl
@[simp] theorem gNeI {i j : Int} : gNe (.int i) (.int j) = some (.bool (!decide (i = j))) := by
  unfold gNe
  rw [shI, shI, eqvI]
  rfl
@[simp] theorem gLeI {i j : Int} : gLe (.int i) (.int j) = some (.bool (decide (i ≤ j))) := rfl
@[simp] theorem gGtI {i j : Int} : gGt (.int i) (.int j) = some (.bool (decide (j < i))) := rfl
@[simp] theorem gGeI {i j : Int} : gGe (.int i) (.int j) = some (.bool (decide (j ≤ i))) := rfl
@[simp] theorem gLtI {i j : Int} : gLt (.int i) (.int j) = some (.bool (decide (i < j))) := rfl
@[simp] theorem gSubII {i j : Int} : gSubI (.int i) (.int j) = some (.int (i - j)) := rfl
@[simp] theorem gAddII {i j : Int} : gAdd (.int i) (.int j) = some (.int (i + j)) := rfl
@[simp] theorem gLenL {ds : List PyData} : gLen (.list ds) = some (.int ds.length) := rfl
@[simp] theorem gLenT {ds : List PyData} : gLen (.tuple ds) = some (.int ds.length) := rfl
@[simp] theorem gTupleL {ds : List PyData} : gTuple (.list ds) = some (.tuple ds) := rfl
@[simp] theorem gTupleT {ds : List PyData} : gTuple (.tuple ds) = some (.tuple ds) := rfl
theorem boolsOf_mapF {α : Type} (f : α → Bool) : ∀ xs : List α, boolsOf (xs.map fun x => .bool (f x)) = some (xs.map f)
  | [] => rfl
  | x :: xs => by
    rw [List.map_cons]
    show (boolsOf (xs.map fun x => .bool (f x))).map (f x :: ·) = _
    rw [boolsOf_mapF f xs]
    rfl
theorem intsOf_mapF {α : Type} (f : α → Int) : ∀ xs : List α, intsOf (xs.map fun x => .int (f x)) = some (xs.map f)
  | [] => rfl
  | x :: xs => by
    rw [List.map_cons]
    show (intsOf (xs.map fun x => .int (f x))).map (f x :: ·) = _
    rw [intsOf_mapF f xs]
    rfl
theorem gAll_map {α : Type} {f : α → Bool} {xs : List α} : gAll (.list (xs.map fun x => .bool (f x))) = some (.bool (xs.all f)) := by
  show (boolsOf _).map _ = _
  rw [boolsOf_mapF]
  simp [List.all_map]
theorem gSum_map {α : Type} {f : α → Int} {xs : List α} : gSum (.list (xs.map fun x => .int (f x))) = some (.int (xs.map f).sum) := by
  show (intsOf _).map _ = _
  rw [intsOf_mapF]
  rfl
@[simp] theorem lcGo_nil {tg : FG} {ft : FB} {fe : FE} {vs : List Nat} {e : En} : lcGo tg ft fe vs [] e = some ([], e) := rfl
@[simp] theorem lcGo_cons {tg : FG} {ft : FB} {fe : FE} {vs : List Nat} {d : PyData} {ds : List PyData} {e : En} : lcGo tg ft fe vs (d :: ds) e = ((tg d e).bind fun e1 => (ft e1).bind fun q => if q.1 = true then (fe q.2).map fun y => ((some y.1 : Option PyData), wipeE y.2 vs) else some (none, wipeE q.2 vs)).bind fun r => (lcGo tg ft fe vs ds r.2).map fun s => (r.1.toList ++ s.1, s.2) := lcGo_step
@[simp] theorem gIsi_tt {ds : List PyData} : gIsi "tuple" (.tuple ds) = some (.bool true) := rfl
@[simp] theorem gIsi_tl {ds : List PyData} : gIsi "tuple" (.list ds) = some (.bool false) := rfl
@[simp] theorem gIsi_ti {i : Int} : gIsi "tuple" (.int i) = some (.bool false) := rfl
@[simp] theorem gIsi_tn : gIsi "tuple" .none = some (.bool false) := rfl
@[simp] theorem gIsi_tb {b : Bool} : gIsi "tuple" (.bool b) = some (.bool false) := rfl
@[simp] theorem gIsi_ii {i : Int} : gIsi "int" (.int i) = some (.bool true) := rfl
@[simp] theorem gIsi_ib {b : Bool} : gIsi "int" (.bool b) = some (.bool true) := rfl
@[simp] theorem gIsi_bi {i : Int} : gIsi "bool" (.int i) = some (.bool false) := rfl
@[simp] theorem gIsi_bb {b : Bool} : gIsi "bool" (.bool b) = some (.bool true) := rfl
@[simp] theorem gIsi_il {ds : List PyData} : gIsi "int" (.list ds) = some (.bool false) := rfl
@[simp] theorem gIsi_it {ds : List PyData} : gIsi "int" (.tuple ds) = some (.bool false) := rfl
@[simp] theorem gIsi_in : gIsi "int" .none = some (.bool false) := rfl
@[simp] theorem gIx_t {ds : List PyData} {i : Int} : gIx (.tuple ds) (.int i) = L2.atI ds i := rfl
@[simp] theorem gIx_l {ds : List PyData} {i : Int} : gIx (.list ds) (.int i) = L2.atI ds i := rfl
@[simp] theorem atI_nat {α : Type} {xs : List α} {k : Nat} : L2.atI xs (k : Int) = xs[k]? := by
  unfold L2.atI L2.ixN
  rw [if_pos (by omega)]
  by_cases h : k < xs.length
  · simp [h]
  · simp [h]
@[simp] theorem atI_0 {α : Type} {x : α} {xs : List α} : L2.atI (x :: xs) 0 = some x := by
  have z := atI_nat (xs := x :: xs) (k := 0)
  simpa using z
@[simp] theorem atI_1 {α : Type} {x y : α} {xs : List α} : L2.atI (x :: y :: xs) 1 = some y := by
  have z := atI_nat (xs := x :: y :: xs) (k := 1)
  simpa using z
@[simp] theorem atI_2 {α : Type} {x y z : α} {xs : List α} : L2.atI (x :: y :: z :: xs) 2 = some z := by
  have q := atI_nat (xs := x :: y :: z :: xs) (k := 2)
  simpa using q
@[simp] theorem boolsOf_nil : boolsOf [] = some [] := rfl
@[simp] theorem boolsOf_cons {b : Bool} {ds : List PyData} : boolsOf (.bool b :: ds) = (boolsOf ds).map (b :: ·) := rfl
@[simp] theorem intsOf_nil : intsOf [] = some [] := rfl
@[simp] theorem intsOf_cons {b : Int} {ds : List PyData} : intsOf (.int b :: ds) = (intsOf ds).map (b :: ·) := rfl
@[simp] theorem boolsOf_f {α : Type} {f : α → Bool} {xs : List α} : boolsOf (xs.map fun x => .bool (f x)) = some (xs.map f) := by
  haveI : TabOf := ⟨[]⟩
  exact boolsOf_mapF f xs
@[simp] theorem intsOf_f {α : Type} {f : α → Int} {xs : List α} : intsOf (xs.map fun x => .int (f x)) = some (xs.map f) := by
  haveI : TabOf := ⟨[]⟩
  exact intsOf_mapF f xs
@[simp] theorem gAll_l {ds : List PyData} : gAll (.list ds) = (boolsOf ds).map fun ns => .bool (ns.all id) := rfl
@[simp] theorem gAny_l {ds : List PyData} : gAny (.list ds) = (boolsOf ds).map fun ns => .bool (ns.any id) := rfl
@[simp] theorem gSum_l {ds : List PyData} : gSum (.list ds) = (intsOf ds).map fun ns => .int ns.sum := rfl
theorem rgOk_small {a b : Int} (h1 : 0 ≤ a) (h2 : a ≤ 1000) (h3 : 0 ≤ b) (h4 : b ≤ 1000) : rgOk a b = true := by
  unfold rgOk
  simp
  omega
/-- range(a, b) as naturals -/
theorem rngD_nat (a b : Nat) : rngD (a : Int) ((b : Int) - (a : Int)).toNat = (List.range' a (b - a)).map fun i => .int ((i : Nat) : Int) := by
  unfold rngD
  have e : ((b : Int) - (a : Int)).toNat = b - a := by omega
  rw [e, List.range'_eq_map_range, List.map_map]
  refine List.map_congr_left fun i _ => ?_
  show PyData.int ((a : Int) + (i : Int)) = PyData.int ((a + i : Nat) : Int)
  rw [Int.natCast_add]
theorem rngD_nat0 (b : Nat) : rngD 0 ((b : Int)).toNat = (List.range b).map fun i => .int ((i : Nat) : Int) := by
  unfold rngD
  rw [Int.toNat_natCast]
  refine List.map_congr_left fun i _ => ?_
  show PyData.int (0 + (i : Int)) = PyData.int (i : Int)
  rw [Int.zero_add]
end N

set_option Elab.async false
set_option linter.all false
set_option maxRecDepth 100000
set_option maxHeartbeats 4000000
namespace N
open PySem PySem.Spec PyProof.Rows L2
def top (i : Nat) : Stmt := PySem.Challenge.pw_noshortrings_k39_whole_switching.main.body.getD i (.Pass ⟨0, 0, 0, 0⟩)
/-- what the top has written -/
structure Tx (P : Program) (K : PySem.W.Frag) (mg : PySem.Str → Option Value) (base : Heap) (C fI : Addr) [TabOf] : Prop where
  bad : PySem.BadX.Txt P K mg C fI
  a_is_integer : FnAt K mg "is_integer" (top 4)
  a_need_integer : FnAt K mg "need_integer" (top 5)
  a_is_tie : FnAt K mg "is_tie" (top 6)
  a_is_web : FnAt K mg "is_web" (top 7)
  a_need_web : FnAt K mg "need_web" (top 8)
  a_sides : FnAt K mg "sides" (top 9)
  a_is_some : FnAt K mg "is_some" (top 11)
  a_is_switch : FnAt K mg "is_switch" (top 12)
  a_switched : FnAt K mg "switched" (top 13)
  a_is_crossing : FnAt K mg "is_crossing" (top 14)
  a_turned_web : FnAt K mg "turned_web" (top 15)
  a_odd_triples : FnAt K mg "odd_triples" (top 16)
  a_switches : FnAt K mg "switches" (top 17)
  a_web_of : FnAt K mg "web_of" (top 19)
  a_ring_web : FnAt K mg "ring_web" (top 20)
  a_table : FnAt K mg "table" (top 23)
  a_times : FnAt K mg "times" (top 24)
  a_trace : FnAt K mg "trace" (top 25)
  a_closed_walks : FnAt K mg "closed_walks" (top 26)
  a_polynomial : FnAt K mg "polynomial" (top 27)
  a__law_dice : FnAt K mg "_law_dice" (top 29)
  a__law_roll : FnAt K mg "_law_roll" (top 30)
  a__law_pick : FnAt K mg "_law_pick" (top 31)
  a__law_refused : FnAt K mg "_law_refused" (top 32)
  a__law_web_of : FnAt K mg "_law_web_of" (top 33)
  a__law_rounds : FnAt K mg "_law_rounds" (top 34)
  a__law_even : FnAt K mg "_law_even" (top 35)
  a__law_mixed : FnAt K mg "_law_mixed" (top 36)
  a__law_some_web : FnAt K mg "_law_some_web" (top 37)
  a__law_bad_web : FnAt K mg "_law_bad_web" (top 38)
  a__law_sides : FnAt K mg "_law_sides" (top 39)
  a__law_some : FnAt K mg "_law_some" (top 40)
  a__law_renamed : FnAt K mg "_law_renamed" (top 41)
  a__law_shuffled : FnAt K mg "_law_shuffled" (top 42)
  a__law_is_own_switch : FnAt K mg "_law_is_own_switch" (top 43)
  a__law_own_switched : FnAt K mg "_law_own_switched" (top 44)
  a__law_made : FnAt K mg "_law_made" (top 45)
  a__law_odd_triples : FnAt K mg "_law_odd_triples" (top 46)
  a__law_right : FnAt K mg "_law_right" (top 47)
  a_law : FnAt K mg "law" (top 48)
  b_abs : mg "abs" = none
  b_all : mg "all" = none
  b_bool : mg "bool" = none
  b_dict : mg "dict" = none
  b_int : mg "int" = none
  b_isinstance : mg "isinstance" = none
  b_len : mg "len" = none
  b_list : mg "list" = none
  b_max : mg "max" = none
  b_min : mg "min" = none
  b_range : mg "range" = none
  b_sorted : mg "sorted" = none
  b_sum : mg "sum" = none
  b_tuple : mg "tuple" = none
  tb__law_right : LamX.TabB base mg (He.codeOf K ("_law_right", none)) (He.tabOf K (He.codeOf K ("_law_right", none)))
  tm__law_right : (He.tabOf K (He.codeOf K ("_law_right", none)), ((("_law_right" : PySem.Str) ++ ".<locals>.") ++ "<lambda>")) ∈ TabOf.T
  tu__law_right : ∀ p ∈ TabOf.T, p.1 = He.tabOf K (He.codeOf K ("_law_right", none)) → p.2 = ((("_law_right" : PySem.Str) ++ ".<locals>.") ++ "<lambda>")
  c_MOST_PLACES : ∃ t, mg "MOST_PLACES" = some (.int 26 t)
  c_MOST_STEPS : ∃ t, mg "MOST_STEPS" = some (.int 12 t)
/-! ### is_integer -/
abbrev N_is_integer : List PySem.Str := ["value"]
def t_is_integer [TabOf] (K : PySem.W.Frag) (C : Addr) (E : XK) : TS := tRet (tAndV (tCB (rIsi K) (tCons (tVar 0) (tCons (tC (.ty "int")) tNil))) (tNotV (tCB (rIsi K) (tCons (tVar 0) (tCons (tC (.ty "bool")) tNil)))))
def F_is_integer : FS := sRet (fAndV (fUn (gIsi "int") (fVar 0)) (fNotV (fUn (gIsi "bool") (fVar 0))))
def G_is_integer := runP 1 1 F_is_integer
theorem sc_is_integer : FnScope N_is_integer ["value"] (defScope (top 4)) := ⟨rfl, rfl, rfl, by decide +kernel, rfl, by decide +kernel, by decide +kernel⟩
theorem e_is_integer [TabOf] {K : PySem.W.Frag} {C : Addr} (E : XK) : EvS true C E (t_is_integer K C E) F_is_integer := s_ret (ev_andV (ev_isi isi_int ((ev_var).t)) (ev_notV (ev_isi isi_bool ((ev_var).t))))
theorem w_is_integer [TabOf] {P : Program} {w : World} {K : PySem.W.Frag} {mg : PySem.Str → Option Value} {base : Heap} {C fI : Addr} (T : Tx P K mg base C fI) : Wk P w K mg base 1 "is_integer" (top 4) ["value"] (spP C 1 G_is_integer) := by
  refine wk_P (C := C) T.a_is_integer sc_is_integer rfl (by decide) (fun _ _ _ _ _ _ us hl => match us, hl with | [_], _ => rfl) (t_is_integer K C) e_is_integer (fun f cdv hcv A outer s H E hr => ?_)
  exact pss_one (ps_ret (pe_and (pe_callB call_isi (by rfl) T.b_isinstance (by first | rfl | decide +kernel) (pa_cons (pv 0) (pa_cons (pe_bltn (by rfl) T.b_int (by first | rfl | decide +kernel) (by rfl)) pa_nil))) (pe_one (pe_not (pe_callB call_isi (by rfl) T.b_isinstance (by first | rfl | decide +kernel) (pa_cons (pv 0) (pa_cons (pe_bltn (by rfl) T.b_bool (by first | rfl | decide +kernel) (by rfl)) pa_nil)))))))
/-! ### sides -/
abbrev N_sides : List PySem.Str := ["web", "found", "one", "other", "place", "row"]
def t_sides [TabOf] (K : PySem.W.Frag) (C : Addr) (E : XK) : TS := tSeq (tAsg (tLc (iRng1 (tCons (tOp (rIx K) (tVar 0) (tC (.int 0))) tNil)) (gName 4) (tYes) (tLst (tNil)) [4]) (gName 1)) (tSeq (tFor (iSeq K (tOp (rIx K) (tVar 0) (tC (.int 1)))) (gTup K 2 (gCons (gName 2) (gCons (gName 3) (gNil)))) (tSeq (tDrop (tBM K "list" rAppend (tOp (rIx K) (tVar 1) (tVar 2)) (tCons (tVar 3) tNil))) (tDrop (tBM K "list" rAppend (tOp (rIx K) (tVar 1) (tVar 3)) (tCons (tVar 2) tNil))))) (tRet (tLc (iSeq K (tVar 1)) (gName 5) (tYes) (tCB (rSortX K) (tCons (tVar 5) tNil)) [5])))
def F_sides : FS := sSeq (sM2 1 (fRg1 (fOp gIx (fVar 0) (fC (.int 0)))) (tgN 4) (fLst (fNil)) [4]) (sSeq (sFor (fSeq (fOp gIx (fVar 0) (fC (.int 1)))) (tgT [2, 3]) (sSeq (sDrop (fApp2 1 (fVar 2) (fVar 3))) (sDrop (fApp2 1 (fVar 3) (fVar 2))))) (sFreeze 1 (sRet (fLc (fSeq (fVar 1)) (tgN 5) (fYes) (fUn gSorted (fVar 5)) [5]))))
def G_sides := runP 6 1 F_sides
theorem sc_sides : FnScope N_sides ["web"] (defScope (top 9)) := ⟨rfl, rfl, rfl, by decide +kernel, rfl, by decide +kernel, by decide +kernel⟩
theorem e_sides [TabOf] {K : PySem.W.Frag} {C : Addr} (E : XK) : EvS true C E (t_sides K C E) F_sides := s_seq (s_m2 (ei_rg1 (ev_op (ev_var) ((ev_cI 0).t) rd_ix)) (eg_name) (ef_lst (ea_nil) (len_nil))) (s_seq (s_for (ei_seq (ev_op (ev_var) ((ev_cI 1).t) rd_ix)) (eg_tup (egs_cons (egs_cons (egs_nil)))) (s_seq (s_drop (ev_app2 (ev_var) hj_v (ev_var))) (s_drop (ev_app2 (ev_var) hj_v (ev_var))))) (s_freeze (i := 1) (s_ret ((ef_lc (ei_seq (ev_var)) (eg_name) (eb_yes) (ev_call1 ((ev_var).t) rd_sorted)).ev))))
theorem w_sides [TabOf] {P : Program} {w : World} {K : PySem.W.Frag} {mg : PySem.Str → Option Value} {base : Heap} {C fI : Addr} (T : Tx P K mg base C fI) : Wk P w K mg base 1 "sides" (top 9) ["web"] (spP C 1 G_sides) := by
  refine wk_P (C := C) T.a_sides sc_sides rfl (by decide) (fun _ _ _ _ _ _ us hl => match us, hl with | [_], _ => rfl) (t_sides K C) e_sides (fun f cdv hcv A outer s H E hr => ?_)
  exact pss_cons (ps_setLc (i := 1) (own := [("place", 4)]) (g := gName 4) (tt := tYes) (te := tLst (tNil)) (wi := iRng1 (tCons (tOp (rIx K) (tVar 0) (tC (.int 0))) tNil)) (by rfl) sc_sides.nd (by rfl) (by rfl) (sw_true (by rfl) (by rfl) (by rfl) (by first | rfl | kernel_rfl)) (pi_range1 (by rfl) T.b_range (pa_cons (pe_ix ix_seq (pv 0) (pe_int) (fun _ _ => rfl)) pa_nil)) (blkOk_by (by first | rfl | kernel_rfl)) (fun _ _ _ _ _ => pg_name (i := 4) sc_sides.nd (by rfl) (Or.inl (by rfl))) (fun _ _ _ _ _ => pts_nil) (fun _ _ _ _ _ => pe_lst (pa_nil))) (pss_cons (ps_for (passes_of (by rfl)) (by rfl) (pi_seq (pe_ix ix_seq (pv 0) (pe_int) (fun _ _ => rfl))) (pg_tup (by rfl) (pgs_cons (pg_name (i := 2) sc_sides.nd (by rfl) (Or.inl (by rfl))) (pgs_cons (pg_name (i := 3) sc_sides.nd (by rfl) (Or.inl (by rfl))) (pgs_nil)))) (pss_cons (ps_expr (pe_bm PySem.F.plainAttrs_list PySem.F.slot_list_append PySem.F.type_list_append mt_append (pe_ix ix_seq (pv 1) (pv 2) (fun _ _ => rfl)) (pa_cons (pv 3) pa_nil))) (pss_one (ps_expr (pe_bm PySem.F.plainAttrs_list PySem.F.slot_list_append PySem.F.type_list_append mt_append (pe_ix ix_seq (pv 1) (pv 3) (fun _ _ => rfl)) (pa_cons (pv 2) pa_nil)))))) (pss_one (ps_ret (pe_lc (own := [("row", 5)]) (g := gName 5) (tt := tYes) (te := tCB (rSortX K) (tCons (tVar 5) tNil)) (wi := iSeq K (tVar 1)) (by rfl) sc_sides.nd (pi_seq (pv 1)) (blkOk_by (by first | rfl | kernel_rfl)) (fun _ _ _ _ _ => pg_name (i := 5) sc_sides.nd (by rfl) (Or.inl (by rfl))) (fun _ _ _ _ _ => pts_nil) (fun _ _ _ _ _ => pe_callB (cr_sortX hr.units) (by rfl) T.b_sorted (by first | rfl | decide +kernel) (pa_cons (pv 5) pa_nil))))))
/-! ### is_crossing -/
abbrev N_is_crossing : List PySem.Str := ["tie", "places", "half"]
def t_is_crossing [TabOf] (K : PySem.W.Frag) (C : Addr) (E : XK) : TS := tRet (tOrV (tAndV (tOp (rInX K false) (tOp (rIx K) (tVar 0) (tC (.int 0))) (tVar 1)) (tOp (rInX K false) (tOp (rIx K) (tVar 0) (tC (.int 1))) (tVar 2))) (tAndV (tOp (rInX K false) (tOp (rIx K) (tVar 0) (tC (.int 1))) (tVar 1)) (tOp (rInX K false) (tOp (rIx K) (tVar 0) (tC (.int 0))) (tVar 2))))
def F_is_crossing : FS := sRet (fOrV (fAndV (fOp (gIn false) (fOp gIx (fVar 0) (fC (.int 0))) (fVar 1)) (fOp (gIn false) (fOp gIx (fVar 0) (fC (.int 1))) (fVar 2))) (fAndV (fOp (gIn false) (fOp gIx (fVar 0) (fC (.int 1))) (fVar 1)) (fOp (gIn false) (fOp gIx (fVar 0) (fC (.int 0))) (fVar 2))))
def G_is_crossing := runP 3 3 F_is_crossing
theorem sc_is_crossing : FnScope N_is_crossing ["tie", "places", "half"] (defScope (top 14)) := ⟨rfl, rfl, rfl, by decide +kernel, rfl, by decide +kernel, by decide +kernel⟩
theorem e_is_crossing [TabOf] {K : PySem.W.Frag} {C : Addr} (E : XK) : EvS true C E (t_is_crossing K C E) F_is_crossing := s_ret (ev_orV (ev_andV (ev_op (ev_op (ev_var) ((ev_cI 0).t) rd_ix) ((ev_var).t) rd_in) (ev_op (ev_op (ev_var) ((ev_cI 1).t) rd_ix) ((ev_var).t) rd_in)) (ev_andV (ev_op (ev_op (ev_var) ((ev_cI 1).t) rd_ix) ((ev_var).t) rd_in) (ev_op (ev_op (ev_var) ((ev_cI 0).t) rd_ix) ((ev_var).t) rd_in)))
theorem w_is_crossing [TabOf] {P : Program} {w : World} {K : PySem.W.Frag} {mg : PySem.Str → Option Value} {base : Heap} {C fI : Addr} (T : Tx P K mg base C fI) : Wk P w K mg base 1 "is_crossing" (top 14) ["tie", "places", "half"] (spP C 3 G_is_crossing) := by
  refine wk_P (C := C) T.a_is_crossing sc_is_crossing rfl (by decide) (fun _ _ _ _ _ _ us hl => match us, hl with | [_, _, _], _ => rfl) (t_is_crossing K C) e_is_crossing (fun f cdv hcv A outer s H E hr => ?_)
  exact pss_one (ps_ret (pe_or (pe_and (pe_cmpR (op_inX (Room.u65 hr)) (pe_ix ix_seq (pv 0) (pe_int) (fun _ _ => rfl)) (pv 1) (by rfl)) (pe_one (pe_cmpR (op_inX (Room.u65 hr)) (pe_ix ix_seq (pv 0) (pe_int) (fun _ _ => rfl)) (pv 2) (by rfl)))) (pe_one (pe_and (pe_cmpR (op_inX (Room.u65 hr)) (pe_ix ix_seq (pv 0) (pe_int) (fun _ _ => rfl)) (pv 1) (by rfl)) (pe_one (pe_cmpR (op_inX (Room.u65 hr)) (pe_ix ix_seq (pv 0) (pe_int) (fun _ _ => rfl)) (pv 2) (by rfl)))))))
/-! ### web_of -/
abbrev N_web_of : List PySem.Str := ["many", "pairs", "ties", "pair"]
def t_web_of [TabOf] (K : PySem.W.Frag) (C : Addr) (E : XK) : TS := tSeq (tAsg (tCB (rDictT K) (tCons (tLc (iSeq K (tVar 1)) (gName 3) (tYes) (tTup (tCons (tTup (tCons (tCB (rMinX K) (tCons (tVar 3) tNil)) (tCons (tCB (rMaxX K) (tCons (tVar 3) tNil)) (tNil)))) (tCons (tC (.bl true)) (tNil)))) [3]) tNil)) (gName 2)) (tRet (tTup (tCons (tVar 0) (tCons (tCB (rTupS K) (tCons (tCB rSortDT (tCons (tVar 2) tNil)) tNil)) tNil))))
def F_web_of : FS := sWeb (fLc (fSeq (fVar 1)) (tgN 3) (fYes) (fTup (fCons (fTup (fCons (fUn gMin (fVar 3)) (fCons (fUn gMax (fVar 3)) (fNil)))) (fCons (fC (.bool true)) (fNil)))) [3])
def G_web_of := runP 4 2 F_web_of
theorem sc_web_of : FnScope N_web_of ["many", "pairs"] (defScope (top 19)) := ⟨rfl, rfl, rfl, by decide +kernel, rfl, by decide +kernel, by decide +kernel⟩
theorem e_web_of [TabOf] {K : PySem.W.Frag} {C : Addr} (E : XK) : EvS true C E (t_web_of K C E) F_web_of := s_web ((ef_lc (ei_seq (ev_var)) (eg_name) (eb_yes) (ev_tup (ea_cons (ev_tup (ea_cons (ev_call1 ((ev_var).t) rd_min) (ea_cons (ev_call1 ((ev_var).t) rd_max) (ea_nil))) (len_cons (len_cons (len_nil)))) (ea_cons (ev_cB true) (ea_nil))) (len_cons (len_cons (len_nil))))).ev)
theorem w_web_of [TabOf] {P : Program} {w : World} {K : PySem.W.Frag} {mg : PySem.Str → Option Value} {base : Heap} {C fI : Addr} (T : Tx P K mg base C fI) : Wk P w K mg base 1 "web_of" (top 19) ["many", "pairs"] (spP C 2 G_web_of) := by
  refine wk_P (C := C) T.a_web_of sc_web_of rfl (by decide) (fun _ _ _ _ _ _ us hl => match us, hl with | [_, _], _ => rfl) (t_web_of K C) e_web_of (fun f cdv hcv A outer s H E hr => ?_)
  exact pss_cons (ps_set (i := 2) sc_web_of.nd (by rfl) (Or.inl (by rfl)) (pe_callTy (cr_dictT (by rfl) hr.units) (by rfl) T.b_dict (by first | rfl | decide +kernel) (pa_cons (pe_lc (own := [("pair", 3)]) (g := gName 3) (tt := tYes) (te := tTup (tCons (tTup (tCons (tCB (rMinX K) (tCons (tVar 3) tNil)) (tCons (tCB (rMaxX K) (tCons (tVar 3) tNil)) (tNil)))) (tCons (tC (.bl true)) (tNil)))) (wi := iSeq K (tVar 1)) (by rfl) sc_web_of.nd (pi_seq (pv 1)) (blkOk_by (by first | rfl | kernel_rfl)) (fun _ _ _ _ _ => pg_name (i := 3) sc_web_of.nd (by rfl) (Or.inl (by rfl))) (fun _ _ _ _ _ => pts_nil) (fun _ _ _ _ _ => pe_tup (pa_cons (pe_tup (pa_cons (pe_callB (cr_minX (by rfl) hr.units) (by rfl) T.b_min (by first | rfl | decide +kernel) (pa_cons (pv 3) pa_nil)) (pa_cons (pe_callB (cr_maxX (by rfl) hr.units) (by rfl) T.b_max (by first | rfl | decide +kernel) (pa_cons (pv 3) pa_nil)) (pa_nil)))) (pa_cons (pe_bl) (pa_nil))))) pa_nil))) (pss_one (ps_ret (pe_tup (pa_cons (pv 0) (pa_cons (pe_callTy call_tuple_of (by rfl) T.b_tuple (by first | rfl | decide +kernel) (pa_cons (pe_callB (cr_sortDT (by rfl) hr.units) (by rfl) T.b_sorted (by first | rfl | decide +kernel) (pa_cons (pv 2) pa_nil)) pa_nil)) pa_nil)))))
/-! ### times -/
abbrev N_times : List PySem.Str := ["one", "other", "columns", "at", "row", "column"]
def t_times [TabOf] (K : PySem.W.Frag) (C : Addr) (E : XK) : TS := tSeq (tAsg (tLc (iRng1 (tCons (tCB (rLenS K) (tCons (tVar 1) tNil)) tNil)) (gName 3) (tYes) (tLc (iSeq K (tVar 1)) (gName 4) (tYes) (tOp (rIx K) (tVar 4) (tVar 3)) [4]) [3]) (gName 2)) (tRet (tLc (iSeq K (tVar 0)) (gName 4) (tYes) (tLc (iSeq K (tVar 2)) (gName 5) (tYes) (tCB (rSum K) (tCons (tLc (iRng1 (tCons (tCB (rLenS K) (tCons (tVar 4) tNil)) tNil)) (gName 3) (tYes) (tOp rMulX (tOp (rIx K) (tVar 4) (tVar 3)) (tOp (rIx K) (tVar 5) (tVar 3))) [3]) tNil)) [5]) [4]))
def F_times : FS := sSeq (sAsg (fLc (fRg1 (fUn gLen (fVar 1))) (tgN 3) (fYes) (fLc (fSeq (fVar 1)) (tgN 4) (fYes) (fOp gIx (fVar 4) (fVar 3)) [4]) [3]) (tgN 2)) (sRet (fLc (fSeq (fVar 0)) (tgN 4) (fYes) (fLc (fSeq (fVar 2)) (tgN 5) (fYes) (fUn gSum (fLc (fRg1 (fUn gLen (fVar 4))) (tgN 3) (fYes) (fOp gMul (fOp gIx (fVar 4) (fVar 3)) (fOp gIx (fVar 5) (fVar 3))) [3])) [5]) [4]))
def G_times := runP 6 2 F_times
theorem sc_times : FnScope N_times ["one", "other"] (defScope (top 24)) := ⟨rfl, rfl, rfl, by decide +kernel, rfl, by decide +kernel, by decide +kernel⟩
theorem e_times [TabOf] {K : PySem.W.Frag} {C : Addr} (E : XK) : EvS true C E (t_times K C E) F_times := s_seq (s_asg ((ef_lc (ei_rg1 (ev_call1 ((ev_var).t) rd_len)) (eg_name) (eb_yes) ((ef_lc (ei_seq (ev_var)) (eg_name) (eb_yes) (ev_op (ev_var) ((ev_var).t) rd_ix)).ev)).ev) eg_name) (s_ret ((ef_lc (ei_seq (ev_var)) (eg_name) (eb_yes) ((ef_lc (ei_seq (ev_var)) (eg_name) (eb_yes) (ev_call1 (((ef_lc (ei_rg1 (ev_call1 ((ev_var).t) rd_len)) (eg_name) (eb_yes) (ev_op (ev_op (ev_var) ((ev_var).t) rd_ix) ((ev_op (ev_var) ((ev_var).t) rd_ix).t) rd_mul)).ev).t) rd_sum)).ev)).ev))
theorem w_times [TabOf] {P : Program} {w : World} {K : PySem.W.Frag} {mg : PySem.Str → Option Value} {base : Heap} {C fI : Addr} (T : Tx P K mg base C fI) : Wk P w K mg base 1 "times" (top 24) ["one", "other"] (spP C 2 G_times) := by
  refine wk_P (C := C) T.a_times sc_times rfl (by decide) (fun _ _ _ _ _ _ us hl => match us, hl with | [_, _], _ => rfl) (t_times K C) e_times (fun f cdv hcv A outer s H E hr => ?_)
  exact pss_cons (ps_set (i := 2) sc_times.nd (by rfl) (Or.inr (by rfl)) (pe_lc (own := [("at", 3)]) (g := gName 3) (tt := tYes) (te := tLc (iSeq K (tVar 1)) (gName 4) (tYes) (tOp (rIx K) (tVar 4) (tVar 3)) [4]) (wi := iRng1 (tCons (tCB (rLenS K) (tCons (tVar 1) tNil)) tNil)) (by rfl) sc_times.nd (pi_range1 (by rfl) T.b_range (pa_cons (pe_callB call_len_seq (by rfl) T.b_len (by first | rfl | decide +kernel) (pa_cons (pv 1) pa_nil)) pa_nil)) (blkOk_by (by first | rfl | kernel_rfl)) (fun _ _ _ _ _ => pg_name (i := 3) sc_times.nd (by rfl) (Or.inr (by rfl))) (fun _ _ _ _ _ => pts_nil) (fun _ _ _ _ _ => pe_lc (own := [("row", 4)]) (g := gName 4) (tt := tYes) (te := tOp (rIx K) (tVar 4) (tVar 3)) (wi := iSeq K (tVar 1)) (by rfl) sc_times.nd (pi_seq (pv 1)) (blkOk_by (by first | rfl | kernel_rfl)) (fun _ _ _ _ _ => pg_name (i := 4) sc_times.nd (by rfl) (Or.inl (by rfl))) (fun _ _ _ _ _ => pts_nil) (fun _ _ _ _ _ => pe_ix ix_seq (pv 4) (pv 3) (fun _ _ => rfl))))) (pss_one (ps_ret (pe_lc (own := [("row", 4)]) (g := gName 4) (tt := tYes) (te := tLc (iSeq K (tVar 2)) (gName 5) (tYes) (tCB (rSum K) (tCons (tLc (iRng1 (tCons (tCB (rLenS K) (tCons (tVar 4) tNil)) tNil)) (gName 3) (tYes) (tOp rMulX (tOp (rIx K) (tVar 4) (tVar 3)) (tOp (rIx K) (tVar 5) (tVar 3))) [3]) tNil)) [5]) (wi := iSeq K (tVar 0)) (by rfl) sc_times.nd (pi_seq (pv 0)) (blkOk_by (by first | rfl | kernel_rfl)) (fun _ _ _ _ _ => pg_name (i := 4) sc_times.nd (by rfl) (Or.inr (by rfl))) (fun _ _ _ _ _ => pts_nil) (fun _ _ _ _ _ => pe_lc (own := [("column", 5)]) (g := gName 5) (tt := tYes) (te := tCB (rSum K) (tCons (tLc (iRng1 (tCons (tCB (rLenS K) (tCons (tVar 4) tNil)) tNil)) (gName 3) (tYes) (tOp rMulX (tOp (rIx K) (tVar 4) (tVar 3)) (tOp (rIx K) (tVar 5) (tVar 3))) [3]) tNil)) (wi := iSeq K (tVar 2)) (by rfl) sc_times.nd (pi_seq (pv 2)) (blkOk_by (by first | rfl | kernel_rfl)) (fun _ _ _ _ _ => pg_name (i := 5) sc_times.nd (by rfl) (Or.inr (by rfl))) (fun _ _ _ _ _ => pts_nil) (fun _ _ _ _ _ => pe_callB (cr_sum (by rfl)) (by rfl) T.b_sum (by first | rfl | decide +kernel) (pa_cons (pe_lc (own := [("at", 3)]) (g := gName 3) (tt := tYes) (te := tOp rMulX (tOp (rIx K) (tVar 4) (tVar 3)) (tOp (rIx K) (tVar 5) (tVar 3))) (wi := iRng1 (tCons (tCB (rLenS K) (tCons (tVar 4) tNil)) tNil)) (by rfl) sc_times.nd (pi_range1 (by rfl) T.b_range (pa_cons (pe_callB call_len_seq (by rfl) T.b_len (by first | rfl | decide +kernel) (pa_cons (pv 4) pa_nil)) pa_nil)) (blkOk_by (by first | rfl | kernel_rfl)) (fun _ _ _ _ _ => pg_name (i := 3) sc_times.nd (by rfl) (Or.inl (by rfl))) (fun _ _ _ _ _ => pts_nil) (fun _ _ _ _ _ => pe_op op_mulX (pe_ix ix_seq (pv 4) (pv 3) (fun _ _ => rfl)) (pe_ix ix_seq (pv 5) (pv 3) (fun _ _ => rfl)))) pa_nil))))))
/-! ### trace -/
abbrev N_trace : List PySem.Str := ["one", "at"]
def t_trace [TabOf] (K : PySem.W.Frag) (C : Addr) (E : XK) : TS := tRet (tCB (rSum K) (tCons (tLc (iRng1 (tCons (tCB (rLenS K) (tCons (tVar 0) tNil)) tNil)) (gName 1) (tYes) (tOp (rIx K) (tOp (rIx K) (tVar 0) (tVar 1)) (tVar 1)) [1]) tNil))
def F_trace : FS := sRet (fUn gSum (fLc (fRg1 (fUn gLen (fVar 0))) (tgN 1) (fYes) (fOp gIx (fOp gIx (fVar 0) (fVar 1)) (fVar 1)) [1]))
def G_trace := runP 2 1 F_trace
theorem sc_trace : FnScope N_trace ["one"] (defScope (top 25)) := ⟨rfl, rfl, rfl, by decide +kernel, rfl, by decide +kernel, by decide +kernel⟩
theorem e_trace [TabOf] {K : PySem.W.Frag} {C : Addr} (E : XK) : EvS true C E (t_trace K C E) F_trace := s_ret (ev_call1 (((ef_lc (ei_rg1 (ev_call1 ((ev_var).t) rd_len)) (eg_name) (eb_yes) (ev_op (ev_op (ev_var) ((ev_var).t) rd_ix) ((ev_var).t) rd_ix)).ev).t) rd_sum)
theorem w_trace [TabOf] {P : Program} {w : World} {K : PySem.W.Frag} {mg : PySem.Str → Option Value} {base : Heap} {C fI : Addr} (T : Tx P K mg base C fI) : Wk P w K mg base 1 "trace" (top 25) ["one"] (spP C 1 G_trace) := by
  refine wk_P (C := C) T.a_trace sc_trace rfl (by decide) (fun _ _ _ _ _ _ us hl => match us, hl with | [_], _ => rfl) (t_trace K C) e_trace (fun f cdv hcv A outer s H E hr => ?_)
  exact pss_one (ps_ret (pe_callB (cr_sum (by rfl)) (by rfl) T.b_sum (by first | rfl | decide +kernel) (pa_cons (pe_lc (own := [("at", 1)]) (g := gName 1) (tt := tYes) (te := tOp (rIx K) (tOp (rIx K) (tVar 0) (tVar 1)) (tVar 1)) (wi := iRng1 (tCons (tCB (rLenS K) (tCons (tVar 0) tNil)) tNil)) (by rfl) sc_trace.nd (pi_range1 (by rfl) T.b_range (pa_cons (pe_callB call_len_seq (by rfl) T.b_len (by first | rfl | decide +kernel) (pa_cons (pv 0) pa_nil)) pa_nil)) (blkOk_by (by first | rfl | kernel_rfl)) (fun _ _ _ _ _ => pg_name (i := 1) sc_trace.nd (by rfl) (Or.inl (by rfl))) (fun _ _ _ _ _ => pts_nil) (fun _ _ _ _ _ => pe_ix ix_seq (pe_ix ix_seq (pv 0) (pv 1) (fun _ _ => rfl)) (pv 1) (fun _ _ => rfl))) pa_nil)))
/-! ### _law_roll -/
abbrev N__law_roll : List PySem.Str := ["dice", "many", "found"]
def t__law_roll [TabOf] (K : PySem.W.Frag) (C : Addr) (E : XK) : TS := tSeq (tIfS (tTest (tOp rGtI (tOp (rIx K) (tVar 0) (tC (.int 0))) (tC (.int 0)))) (tSeq (tAsg (tOp rModI (tCB rIntI (tCons (tOp (rIx K) (tVar 0) (tC (.int 0))) tNil)) (tVar 1)) (gName 2)) (tSeq (tAsg (tOp rDivI (tOp (rIx K) (tVar 0) (tC (.int 0))) (tVar 1)) (gSub (tVar 0) (tC (.int 0)) rSetL)) (tRet (tVar 2)))) (tNext)) (tSeq (tAsg (tOp (rAddX K) (tOp (rIx K) (tVar 0) (tC (.int 2))) (tC (.int 1))) (gSub (tVar 0) (tC (.int 2)) rSetL)) (tSeq (tAsg (tOp rModI (tCB rIntI (tCons (tOp (rAddX K) (tOp (rAddX K) (tOp rMulX (tOp (rIx K) (tVar 0) (tC (.int 1))) (tC (.int 52501))) (tOp rMulX (tOp rMulX (tOp (rIx K) (tVar 0) (tC (.int 2))) (tOp (rIx K) (tVar 0) (tC (.int 2)))) (tC (.int 1009)))) (tC (.int 77))) tNil)) (tC (.int 2147480009))) (gSub (tVar 0) (tC (.int 1)) rSetL)) (tRet (tOp rModI (tCB rIntI (tCons (tOp rDivI (tOp (rIx K) (tVar 0) (tC (.int 1))) (tC (.int 211))) tNil)) (tVar 1)))))
def F__law_roll : FS := sSeq (sIf (fB (fOp gGt (fIxM 0 (fC (.int 0))) (fC (.int 0)))) (sSeq (sAsg (fOp gMod (fUn gInt (fIxM 0 (fC (.int 0)))) (fVar 1)) (tgN 2)) (sSeq (sSetI 0 (fOp gDiv (fIxM 0 (fC (.int 0))) (fVar 1)) (fC (.int 0))) (sRet (fVar 2)))) (sNext)) (sSeq (sSetI 0 (fOp gAdd (fIxM 0 (fC (.int 2))) (fC (.int 1))) (fC (.int 2))) (sSeq (sSetI 0 (fOp gMod (fUn gInt (fOp gAdd (fOp gAdd (fOp gMul (fIxM 0 (fC (.int 1))) (fC (.int 52501))) (fOp gMul (fOp gMul (fIxM 0 (fC (.int 2))) (fIxM 0 (fC (.int 2)))) (fC (.int 1009)))) (fC (.int 77)))) (fC (.int 2147480009))) (fC (.int 1))) (sRet (fOp gMod (fUn gInt (fOp gDiv (fIxM 0 (fC (.int 1))) (fC (.int 211)))) (fVar 1)))))
def G__law_roll := runD 3 2 F__law_roll
theorem sc__law_roll : FnScope N__law_roll ["dice", "many"] (defScope (top 30)) := ⟨rfl, rfl, rfl, by decide +kernel, rfl, by decide +kernel, by decide +kernel⟩
theorem e__law_roll [TabOf] {K : PySem.W.Frag} {C : Addr} (E : XK) : EvS false C E (t__law_roll K C E) F__law_roll := s_seq (s_if (eb_test (ev_op (ev_ixM hi_c (ev_cI 0)) ((ev_cI 0).t) rd_gt)) (s_seq (s_asg (ev_op (ev_call1 ((ev_ixM hi_c (ev_cI 0)).t) rd_int) ((ev_var).t) rd_mod) eg_name) (s_seq (s_setI (ev_op (ev_ixM hi_c (ev_cI 0)) ((ev_var).t) rd_div) (ev_cI 0)) (s_ret (ev_var)))) (s_next)) (s_seq (s_setI (ev_op (ev_ixM hi_c (ev_cI 2)) ((ev_cI 1).t) rd_add) (ev_cI 2)) (s_seq (s_setI (ev_op (ev_call1 ((ev_op (ev_op (ev_op (ev_ixM hi_c (ev_cI 1)) ((ev_cI 52501).t) rd_mul) ((ev_op (ev_op (ev_ixM hi_c (ev_cI 2)) ((ev_ixM hi_c (ev_cI 2)).t) rd_mul) ((ev_cI 1009).t) rd_mul).t) rd_add) ((ev_cI 77).t) rd_add).t) rd_int) ((ev_cI 2147480009).t) rd_mod) (ev_cI 1)) (s_ret (ev_op (ev_call1 ((ev_op (ev_ixM hi_c (ev_cI 1)) ((ev_cI 211).t) rd_div).t) rd_int) ((ev_var).t) rd_mod))))
theorem w__law_roll [TabOf] {P : Program} {w : World} {K : PySem.W.Frag} {mg : PySem.Str → Option Value} {base : Heap} {C fI : Addr} (T : Tx P K mg base C fI) : Wk P w K mg base 1 "_law_roll" (top 30) ["dice", "many"] (spD 2 G__law_roll) := by
  refine wk_D (C := C) T.a__law_roll sc__law_roll rfl (by decide) (fun _ _ _ _ _ _ us hl => match us, hl with | [_, _], _ => rfl) (t__law_roll K C) e__law_roll (fun f cdv hcv A outer s H E hr => ?_)
  exact pss_cons (ps_if (pt_cmpR op_gt (pe_ix ix_seq (pv 0) (pe_int) (fun _ _ => rfl)) (pe_int) (nomark _)) (pss_cons (ps_set (i := 2) sc__law_roll.nd (by rfl) (Or.inl (by rfl)) (pe_op op_mod (pe_callTy call_int1 (by rfl) T.b_int (by first | rfl | decide +kernel) (pa_cons (pe_ix ix_seq (pv 0) (pe_int) (fun _ _ => rfl)) pa_nil)) (pv 1))) (pss_cons (ps_asg (pe_op op_fdiv (pe_ix ix_seq (pv 0) (pe_int) (fun _ _ => rfl)) (pv 1)) (pg_sub (pv 0) (pe_int) set_list)) (pss_one (ps_ret (pv 2))))) (pss_nil)) (pss_cons (ps_asg (pe_op op_addX (pe_ix ix_seq (pv 0) (pe_int) (fun _ _ => rfl)) (pe_int)) (pg_sub (pv 0) (pe_int) set_list)) (pss_cons (ps_asg (pe_op op_mod (pe_callTy call_int1 (by rfl) T.b_int (by first | rfl | decide +kernel) (pa_cons (pe_op op_addX (pe_op op_addX (pe_op op_mulX (pe_ix ix_seq (pv 0) (pe_int) (fun _ _ => rfl)) (pe_int)) (pe_op op_mulX (pe_op op_mulX (pe_ix ix_seq (pv 0) (pe_int) (fun _ _ => rfl)) (pe_ix ix_seq (pv 0) (pe_int) (fun _ _ => rfl))) (pe_int))) (pe_int)) pa_nil)) (pe_int)) (pg_sub (pv 0) (pe_int) set_list)) (pss_one (ps_ret (pe_op op_mod (pe_callTy call_int1 (by rfl) T.b_int (by first | rfl | decide +kernel) (pa_cons (pe_op op_fdiv (pe_ix ix_seq (pv 0) (pe_int) (fun _ _ => rfl)) (pe_int)) pa_nil)) (pv 1))))))
/-! ### _law_web_of -/
abbrev N__law_web_of : List PySem.Str := ["many", "pairs", "found", "one", "other", "pair"]
def t__law_web_of [TabOf] (K : PySem.W.Frag) (C : Addr) (E : XK) : TS := tSeq (tAsg (tLst (tNil)) (gName 2)) (tSeq (tFor (iSeq K (tVar 1)) (gTup K 2 (gCons (gName 3) (gCons (gName 4) (gNil)))) (tSeq (tAsg (tTup (tCons (tCB rMin2I (tCons (tVar 3) (tCons (tVar 4) (tNil)))) (tCons (tCB rMax2I (tCons (tVar 3) (tCons (tVar 4) (tNil)))) (tNil)))) (gName 5)) (tIfS (tAnd (tTest (tOp (rNeD K) (tVar 3) (tVar 4))) (tTest (tOp (rInX K true) (tVar 5) (tVar 2)))) (tDrop (tBM K "list" rAppend (tVar 2) (tCons (tVar 5) tNil))) (tNext)))) (tRet (tTup (tCons (tVar 0) (tCons (tCB (rTupS K) (tCons (tCB (rSortX K) (tCons (tVar 2) tNil)) tNil)) (tNil))))))
def F__law_web_of : FS := sSeq (sAsgMu 2 (fLst (fNil))) (sSeq (sFor (fSeq (fVar 1)) (tgT [3, 4]) (sSeq (sAsg (fTup (fCons (fCB gMin2 (fCons (fVar 3) (fCons (fVar 4) (fNil)))) (fCons (fCB gMax2 (fCons (fVar 3) (fCons (fVar 4) (fNil)))) (fNil)))) (tgN 5)) (sIf (fAnd (fB (fOp gNe (fVar 3) (fVar 4))) (fB (fOp (gIn true) (fVar 5) (fMu 2)))) (sDrop (fApp 2 (fVar 5))) (sNext)))) (sRet (fTup (fCons (fVar 0) (fCons (fUn gTuple (fUn gSorted (fMu 2))) (fNil))))))
def G__law_web_of := runP 6 2 F__law_web_of
theorem sc__law_web_of : FnScope N__law_web_of ["many", "pairs"] (defScope (top 33)) := ⟨rfl, rfl, rfl, by decide +kernel, rfl, by decide +kernel, by decide +kernel⟩
theorem e__law_web_of [TabOf] {K : PySem.W.Frag} {C : Addr} (E : XK) : EvS true C E (t__law_web_of K C E) F__law_web_of := s_seq (s_asgMu (ef_lst (ea_nil) (len_nil))) (s_seq (s_for (ei_seq (ev_var)) (eg_tup (egs_cons (egs_cons (egs_nil)))) (s_seq (s_asg (ev_tup (ea_cons (ev_callA (ea_cons (ev_var) (ea_cons (ev_var) (ea_nil))) rd_min2) (ea_cons (ev_callA (ea_cons (ev_var) (ea_cons (ev_var) (ea_nil))) rd_max2) (ea_nil))) (len_cons (len_cons (len_nil)))) eg_name) (s_if (eb_and (eb_test (ev_op (ev_var) ((ev_var).t) rd_neD)) (eb_test (ev_op (ev_var) (ev_mu) rd_in))) (s_drop (ev_app (ev_var))) (s_next)))) (s_ret (ev_tup (ea_cons (ev_var) (ea_cons (ev_call1 ((ev_call1 (ev_mu) rd_sorted).t) rd_tuple) (ea_nil))) (len_cons (len_cons (len_nil))))))
theorem w__law_web_of [TabOf] {P : Program} {w : World} {K : PySem.W.Frag} {mg : PySem.Str → Option Value} {base : Heap} {C fI : Addr} (T : Tx P K mg base C fI) : Wk P w K mg base 1 "_law_web_of" (top 33) ["many", "pairs"] (spP C 2 G__law_web_of) := by
  refine wk_P (C := C) T.a__law_web_of sc__law_web_of rfl (by decide) (fun _ _ _ _ _ _ us hl => match us, hl with | [_, _], _ => rfl) (t__law_web_of K C) e__law_web_of (fun f cdv hcv A outer s H E hr => ?_)
  exact pss_cons (ps_set (i := 2) sc__law_web_of.nd (by rfl) (Or.inl (by rfl)) (pe_lst (pa_nil))) (pss_cons (ps_for (passes_of (by rfl)) (by rfl) (pi_seq (pv 1)) (pg_tup (by rfl) (pgs_cons (pg_name (i := 3) sc__law_web_of.nd (by rfl) (Or.inl (by rfl))) (pgs_cons (pg_name (i := 4) sc__law_web_of.nd (by rfl) (Or.inl (by rfl))) (pgs_nil)))) (pss_cons (ps_set (i := 5) sc__law_web_of.nd (by rfl) (Or.inl (by rfl)) (pe_tup (pa_cons (pe_callB (call_min2 (by rfl)) (by rfl) T.b_min (by first | rfl | decide +kernel) (pa_cons (pv 3) (pa_cons (pv 4) (pa_nil)))) (pa_cons (pe_callB (call_max2 (by rfl)) (by rfl) T.b_max (by first | rfl | decide +kernel) (pa_cons (pv 3) (pa_cons (pv 4) (pa_nil)))) (pa_nil))))) (pss_one (ps_if ((pw_and (pt_cmpR (op_neD hr.units) (pv 3) (pv 4) (nomark _)) (pw_and1 (pt_cmpR (op_notInX (Room.u65 hr)) (pv 5) (pv 2) (by rfl)))).pt) (pss_one (ps_expr (pe_bm PySem.F.plainAttrs_list PySem.F.slot_list_append PySem.F.type_list_append mt_append (pv 2) (pa_cons (pv 5) pa_nil)))) (pss_nil))))) (pss_one (ps_ret (pe_tup (pa_cons (pv 0) (pa_cons (pe_callTy call_tuple_of (by rfl) T.b_tuple (by first | rfl | decide +kernel) (pa_cons (pe_callB (cr_sortX hr.units) (by rfl) T.b_sorted (by first | rfl | decide +kernel) (pa_cons (pv 2) pa_nil)) pa_nil)) (pa_nil)))))))
/-! ### _law_sides -/
abbrev N__law_sides : List PySem.Str := ["web", "found", "one", "other", "place", "row"]
def t__law_sides [TabOf] (K : PySem.W.Frag) (C : Addr) (E : XK) : TS := tSeq (tAsg (tLc (iRng1 (tCons (tOp (rIx K) (tVar 0) (tC (.int 0))) tNil)) (gName 4) (tYes) (tLst (tNil)) [4]) (gName 1)) (tSeq (tFor (iSeq K (tOp (rIx K) (tVar 0) (tC (.int 1)))) (gTup K 2 (gCons (gName 2) (gCons (gName 3) (gNil)))) (tSeq (tDrop (tBM K "list" rAppend (tOp (rIx K) (tVar 1) (tVar 2)) (tCons (tVar 3) tNil))) (tDrop (tBM K "list" rAppend (tOp (rIx K) (tVar 1) (tVar 3)) (tCons (tVar 2) tNil))))) (tRet (tLc (iSeq K (tVar 1)) (gName 5) (tYes) (tCB (rSortX K) (tCons (tVar 5) tNil)) [5])))
def F__law_sides : FS := sSeq (sM2 1 (fRg1 (fOp gIx (fVar 0) (fC (.int 0)))) (tgN 4) (fLst (fNil)) [4]) (sSeq (sFor (fSeq (fOp gIx (fVar 0) (fC (.int 1)))) (tgT [2, 3]) (sSeq (sDrop (fApp2 1 (fVar 2) (fVar 3))) (sDrop (fApp2 1 (fVar 3) (fVar 2))))) (sFreeze 1 (sRet (fLc (fSeq (fVar 1)) (tgN 5) (fYes) (fUn gSorted (fVar 5)) [5]))))
def G__law_sides := runP 6 1 F__law_sides
theorem sc__law_sides : FnScope N__law_sides ["web"] (defScope (top 39)) := ⟨rfl, rfl, rfl, by decide +kernel, rfl, by decide +kernel, by decide +kernel⟩
theorem e__law_sides [TabOf] {K : PySem.W.Frag} {C : Addr} (E : XK) : EvS true C E (t__law_sides K C E) F__law_sides := s_seq (s_m2 (ei_rg1 (ev_op (ev_var) ((ev_cI 0).t) rd_ix)) (eg_name) (ef_lst (ea_nil) (len_nil))) (s_seq (s_for (ei_seq (ev_op (ev_var) ((ev_cI 1).t) rd_ix)) (eg_tup (egs_cons (egs_cons (egs_nil)))) (s_seq (s_drop (ev_app2 (ev_var) hj_v (ev_var))) (s_drop (ev_app2 (ev_var) hj_v (ev_var))))) (s_freeze (i := 1) (s_ret ((ef_lc (ei_seq (ev_var)) (eg_name) (eb_yes) (ev_call1 ((ev_var).t) rd_sorted)).ev))))
theorem w__law_sides [TabOf] {P : Program} {w : World} {K : PySem.W.Frag} {mg : PySem.Str → Option Value} {base : Heap} {C fI : Addr} (T : Tx P K mg base C fI) : Wk P w K mg base 1 "_law_sides" (top 39) ["web"] (spP C 1 G__law_sides) := by
  refine wk_P (C := C) T.a__law_sides sc__law_sides rfl (by decide) (fun _ _ _ _ _ _ us hl => match us, hl with | [_], _ => rfl) (t__law_sides K C) e__law_sides (fun f cdv hcv A outer s H E hr => ?_)
  exact pss_cons (ps_setLc (i := 1) (own := [("place", 4)]) (g := gName 4) (tt := tYes) (te := tLst (tNil)) (wi := iRng1 (tCons (tOp (rIx K) (tVar 0) (tC (.int 0))) tNil)) (by rfl) sc__law_sides.nd (by rfl) (by rfl) (sw_true (by rfl) (by rfl) (by rfl) (by first | rfl | kernel_rfl)) (pi_range1 (by rfl) T.b_range (pa_cons (pe_ix ix_seq (pv 0) (pe_int) (fun _ _ => rfl)) pa_nil)) (blkOk_by (by first | rfl | kernel_rfl)) (fun _ _ _ _ _ => pg_name (i := 4) sc__law_sides.nd (by rfl) (Or.inl (by rfl))) (fun _ _ _ _ _ => pts_nil) (fun _ _ _ _ _ => pe_lst (pa_nil))) (pss_cons (ps_for (passes_of (by rfl)) (by rfl) (pi_seq (pe_ix ix_seq (pv 0) (pe_int) (fun _ _ => rfl))) (pg_tup (by rfl) (pgs_cons (pg_name (i := 2) sc__law_sides.nd (by rfl) (Or.inl (by rfl))) (pgs_cons (pg_name (i := 3) sc__law_sides.nd (by rfl) (Or.inl (by rfl))) (pgs_nil)))) (pss_cons (ps_expr (pe_bm PySem.F.plainAttrs_list PySem.F.slot_list_append PySem.F.type_list_append mt_append (pe_ix ix_seq (pv 1) (pv 2) (fun _ _ => rfl)) (pa_cons (pv 3) pa_nil))) (pss_one (ps_expr (pe_bm PySem.F.plainAttrs_list PySem.F.slot_list_append PySem.F.type_list_append mt_append (pe_ix ix_seq (pv 1) (pv 3) (fun _ _ => rfl)) (pa_cons (pv 2) pa_nil)))))) (pss_one (ps_ret (pe_lc (own := [("row", 5)]) (g := gName 5) (tt := tYes) (te := tCB (rSortX K) (tCons (tVar 5) tNil)) (wi := iSeq K (tVar 1)) (by rfl) sc__law_sides.nd (pi_seq (pv 1)) (blkOk_by (by first | rfl | kernel_rfl)) (fun _ _ _ _ _ => pg_name (i := 5) sc__law_sides.nd (by rfl) (Or.inl (by rfl))) (fun _ _ _ _ _ => pts_nil) (fun _ _ _ _ _ => pe_callB (cr_sortX hr.units) (by rfl) T.b_sorted (by first | rfl | decide +kernel) (pa_cons (pv 5) pa_nil))))))
/-! ### _law_some -/
abbrev N__law_some : List PySem.Str := ["many", "size", "rows", "turn", "longer", "row", "own"]
def t__law_some [TabOf] (K : PySem.W.Frag) (C : Addr) (E : XK) : TS := tSeq (tAsg (tLst (tCons (tTup (tNil)) (tNil))) (gName 2)) (tSeq (tFor (iRng1 (tCons (tVar 1) tNil)) (gName 3) (tSeq (tAsg (tLst (tNil)) (gName 4)) (tSeq (tFor (iSeq K (tVar 2)) (gName 5) (tAsg (tOp (rAddX K) (tVar 4) (tLc (iRng2 (tCons (tIf (tTest (tOp rGtI (tCB (rLenS K) (tCons (tVar 5) tNil)) (tC (.int 0)))) (tOp (rAddX K) (tOp (rIx K) (tVar 5) (tUn rNegI (tC (.int 1)))) (tC (.int 1))) (tC (.int 0))) (tCons (tVar 0) (tNil)))) (gName 6) (tYes) (tOp (rAddX K) (tVar 5) (tTup (tCons (tVar 6) (tNil)))) [6])) (gName 4))) (tAsg (tVar 4) (gName 2))))) (tRet (tVar 2)))
def F__law_some : FS := sSeq (sAsg (fLst (fCons (fTup (fNil)) (fNil))) (tgN 2)) (sSeq (sFor (fRg1 (fVar 1)) (tgN 3) (sSeq (sAsg (fLst (fNil)) (tgN 4)) (sSeq (sFor (fSeq (fVar 2)) (tgN 5) (sAsg (fOp gAdd (fVar 4) (fLc (fRg2 (fCons (fIf (fB (fOp gGt (fUn gLen (fVar 5)) (fC (.int 0)))) (fOp gAdd (fOp gIx (fVar 5) (fUn gNeg (fC (.int 1)))) (fC (.int 1))) (fC (.int 0))) (fCons (fVar 0) (fNil)))) (tgN 6) (fYes) (fOp gAdd (fVar 5) (fTup (fCons (fVar 6) (fNil)))) [6])) (tgN 4))) (sAsg (fVar 4) (tgN 2))))) (sRet (fVar 2)))
def G__law_some := runP 7 2 F__law_some
theorem sc__law_some : FnScope N__law_some ["many", "size"] (defScope (top 40)) := ⟨rfl, rfl, rfl, by decide +kernel, rfl, by decide +kernel, by decide +kernel⟩
theorem e__law_some [TabOf] {K : PySem.W.Frag} {C : Addr} (E : XK) : EvS true C E (t__law_some K C E) F__law_some := s_seq (s_asg (ev_lst (ea_cons (ev_tup (ea_nil) (len_nil)) (ea_nil)) (len_cons (len_nil))) eg_name) (s_seq (s_for (ei_rg1 (ev_var)) (eg_name) (s_seq (s_asg (ev_lst (ea_nil) (len_nil)) eg_name) (s_seq (s_for (ei_seq (ev_var)) (eg_name) (s_asg (ev_op (ev_var) (((ef_lc (ei_rg2 (ea_cons (ev_if (eb_test (ev_op (ev_call1 ((ev_var).t) rd_len) ((ev_cI 0).t) rd_gt)) (ev_op (ev_op (ev_var) ((ev_un ((ev_cI 1).t) rd_neg).t) rd_ix) ((ev_cI 1).t) rd_add) (ev_cI 0)) (ea_cons (ev_var) (ea_nil)))) (eg_name) (eb_yes) (ev_op (ev_var) ((ev_tup (ea_cons (ev_var) (ea_nil)) (len_cons (len_nil))).t) rd_add)).ev).t) rd_add) eg_name)) (s_asg (ev_var) eg_name)))) (s_ret (ev_var)))
theorem w__law_some [TabOf] {P : Program} {w : World} {K : PySem.W.Frag} {mg : PySem.Str → Option Value} {base : Heap} {C fI : Addr} (T : Tx P K mg base C fI) : Wk P w K mg base 1 "_law_some" (top 40) ["many", "size"] (spP C 2 G__law_some) := by
  refine wk_P (C := C) T.a__law_some sc__law_some rfl (by decide) (fun _ _ _ _ _ _ us hl => match us, hl with | [_, _], _ => rfl) (t__law_some K C) e__law_some (fun f cdv hcv A outer s H E hr => ?_)
  exact pss_cons (ps_set (i := 2) sc__law_some.nd (by rfl) (Or.inl (by rfl)) (pe_lst (pa_cons (pe_tup (pa_nil)) (pa_nil)))) (pss_cons (ps_for (passes_of (by rfl)) (by rfl) (pi_range1 (by rfl) T.b_range (pa_cons (pv 1) pa_nil)) (pg_name (i := 3) sc__law_some.nd (by rfl) (Or.inl (by rfl))) (pss_cons (ps_set (i := 4) sc__law_some.nd (by rfl) (Or.inl (by rfl)) (pe_lst (pa_nil))) (pss_cons (ps_for (passes_of (by rfl)) (by rfl) (pi_seq (pv 2)) (pg_name (i := 5) sc__law_some.nd (by rfl) (Or.inr (by rfl))) (pss_one (ps_set (i := 4) sc__law_some.nd (by rfl) (Or.inl (by rfl)) (pe_op op_addX (pv 4) (pe_lc (own := [("own", 6)]) (g := gName 6) (tt := tYes) (te := tOp (rAddX K) (tVar 5) (tTup (tCons (tVar 6) (tNil)))) (wi := iRng2 (tCons (tIf (tTest (tOp rGtI (tCB (rLenS K) (tCons (tVar 5) tNil)) (tC (.int 0)))) (tOp (rAddX K) (tOp (rIx K) (tVar 5) (tUn rNegI (tC (.int 1)))) (tC (.int 1))) (tC (.int 0))) (tCons (tVar 0) (tNil)))) (by rfl) sc__law_some.nd (pi_range2 (by rfl) T.b_range (pa_cons (pe_ifExp (pt_cmpR op_gt (pe_callB call_len_seq (by rfl) T.b_len (by first | rfl | decide +kernel) (pa_cons (pv 5) pa_nil)) (pe_int) (nomark _)) (pe_op op_addX (pe_ix ix_seq (pv 5) (pe_un un_neg (pe_int)) (fun _ _ => rfl)) (pe_int)) (pe_int)) (pa_cons (pv 0) (pa_nil)))) (blkOk_by (by first | rfl | kernel_rfl)) (fun _ _ _ _ _ => pg_name (i := 6) sc__law_some.nd (by rfl) (Or.inl (by rfl))) (fun _ _ _ _ _ => pts_nil) (fun _ _ _ _ _ => pe_op op_addX (pv 5) (pe_tup (pa_cons (pv 6) (pa_nil))))))))) (pss_one (ps_set (i := 2) sc__law_some.nd (by rfl) (Or.inl (by rfl)) (pv 4)))))) (pss_one (ps_ret (pv 2))))
/-! ### _law_renamed -/
abbrev N__law_renamed : List PySem.Str := ["web", "row", "pairs", "one", "other", "pair"]
def t__law_renamed [TabOf] (K : PySem.W.Frag) (C : Addr) (E : XK) : TS := tSeq (tAsg (tLc (iSeq K (tOp (rIx K) (tVar 0) (tC (.int 1)))) (gTup K 2 (gCons (gName 3) (gCons (gName 4) (gNil)))) (tYes) (tTup (tCons (tOp (rIx K) (tVar 1) (tVar 3)) (tCons (tOp (rIx K) (tVar 1) (tVar 4)) (tNil)))) [3, 4]) (gName 2)) (tRet (tTup (tCons (tOp (rIx K) (tVar 0) (tC (.int 0))) (tCons (tCB (rTupS K) (tCons (tCB (rSortX K) (tCons (tLc (iSeq K (tVar 2)) (gName 5) (tYes) (tTup (tCons (tCB (rMinX K) (tCons (tVar 5) tNil)) (tCons (tCB (rMaxX K) (tCons (tVar 5) tNil)) (tNil)))) [5]) tNil)) tNil)) (tNil)))))
def F__law_renamed : FS := sSeq (sAsg (fLc (fSeq (fOp gIx (fVar 0) (fC (.int 1)))) (tgT [3, 4]) (fYes) (fTup (fCons (fOp gIx (fVar 1) (fVar 3)) (fCons (fOp gIx (fVar 1) (fVar 4)) (fNil)))) [3, 4]) (tgN 2)) (sRet (fTup (fCons (fOp gIx (fVar 0) (fC (.int 0))) (fCons (fUn gTuple (fUn gSorted (fLc (fSeq (fVar 2)) (tgN 5) (fYes) (fTup (fCons (fUn gMin (fVar 5)) (fCons (fUn gMax (fVar 5)) (fNil)))) [5]))) (fNil)))))
def G__law_renamed := runP 6 2 F__law_renamed
theorem sc__law_renamed : FnScope N__law_renamed ["web", "row"] (defScope (top 41)) := ⟨rfl, rfl, rfl, by decide +kernel, rfl, by decide +kernel, by decide +kernel⟩
theorem e__law_renamed [TabOf] {K : PySem.W.Frag} {C : Addr} (E : XK) : EvS true C E (t__law_renamed K C E) F__law_renamed := s_seq (s_asg ((ef_lc (ei_seq (ev_op (ev_var) ((ev_cI 1).t) rd_ix)) (eg_tup (egs_cons (egs_cons (egs_nil)))) (eb_yes) (ev_tup (ea_cons (ev_op (ev_var) ((ev_var).t) rd_ix) (ea_cons (ev_op (ev_var) ((ev_var).t) rd_ix) (ea_nil))) (len_cons (len_cons (len_nil))))).ev) eg_name) (s_ret (ev_tup (ea_cons (ev_op (ev_var) ((ev_cI 0).t) rd_ix) (ea_cons (ev_call1 ((ev_call1 (((ef_lc (ei_seq (ev_var)) (eg_name) (eb_yes) (ev_tup (ea_cons (ev_call1 ((ev_var).t) rd_min) (ea_cons (ev_call1 ((ev_var).t) rd_max) (ea_nil))) (len_cons (len_cons (len_nil))))).ev).t) rd_sorted).t) rd_tuple) (ea_nil))) (len_cons (len_cons (len_nil)))))
theorem w__law_renamed [TabOf] {P : Program} {w : World} {K : PySem.W.Frag} {mg : PySem.Str → Option Value} {base : Heap} {C fI : Addr} (T : Tx P K mg base C fI) : Wk P w K mg base 1 "_law_renamed" (top 41) ["web", "row"] (spP C 2 G__law_renamed) := by
  refine wk_P (C := C) T.a__law_renamed sc__law_renamed rfl (by decide) (fun _ _ _ _ _ _ us hl => match us, hl with | [_, _], _ => rfl) (t__law_renamed K C) e__law_renamed (fun f cdv hcv A outer s H E hr => ?_)
  exact pss_cons (ps_setLc (i := 2) (own := [("one", 3), ("other", 4)]) (g := gTup K 2 (gCons (gName 3) (gCons (gName 4) (gNil)))) (tt := tYes) (te := tTup (tCons (tOp (rIx K) (tVar 1) (tVar 3)) (tCons (tOp (rIx K) (tVar 1) (tVar 4)) (tNil)))) (wi := iSeq K (tOp (rIx K) (tVar 0) (tC (.int 1)))) (by rfl) sc__law_renamed.nd (by rfl) (by rfl) (sw_true (by rfl) (by rfl) (by rfl) (by first | rfl | kernel_rfl)) (pi_seq (pe_ix ix_seq (pv 0) (pe_int) (fun _ _ => rfl))) (blkOk_by (by first | rfl | kernel_rfl)) (fun _ _ _ _ _ => pg_tup (by rfl) (pgs_cons (pg_name (i := 3) sc__law_renamed.nd (by rfl) (Or.inl (by rfl))) (pgs_cons (pg_name (i := 4) sc__law_renamed.nd (by rfl) (Or.inl (by rfl))) (pgs_nil)))) (fun _ _ _ _ _ => pts_nil) (fun _ _ _ _ _ => pe_tup (pa_cons (pe_ix ix_seq (pv 1) (pv 3) (fun _ _ => rfl)) (pa_cons (pe_ix ix_seq (pv 1) (pv 4) (fun _ _ => rfl)) (pa_nil))))) (pss_one (ps_ret (pe_tup (pa_cons (pe_ix ix_seq (pv 0) (pe_int) (fun _ _ => rfl)) (pa_cons (pe_callTy call_tuple_of (by rfl) T.b_tuple (by first | rfl | decide +kernel) (pa_cons (pe_callB (cr_sortX hr.units) (by rfl) T.b_sorted (by first | rfl | decide +kernel) (pa_cons (pe_lc (own := [("pair", 5)]) (g := gName 5) (tt := tYes) (te := tTup (tCons (tCB (rMinX K) (tCons (tVar 5) tNil)) (tCons (tCB (rMaxX K) (tCons (tVar 5) tNil)) (tNil)))) (wi := iSeq K (tVar 2)) (by rfl) sc__law_renamed.nd (pi_seq (pv 2)) (blkOk_by (by first | rfl | kernel_rfl)) (fun _ _ _ _ _ => pg_name (i := 5) sc__law_renamed.nd (by rfl) (Or.inl (by rfl))) (fun _ _ _ _ _ => pts_nil) (fun _ _ _ _ _ => pe_tup (pa_cons (pe_callB (cr_minX (by rfl) hr.units) (by rfl) T.b_min (by first | rfl | decide +kernel) (pa_cons (pv 5) pa_nil)) (pa_cons (pe_callB (cr_maxX (by rfl) hr.units) (by rfl) T.b_max (by first | rfl | decide +kernel) (pa_cons (pv 5) pa_nil)) (pa_nil))))) pa_nil)) pa_nil)) (pa_nil))))))
/-! ### need_integer -/
abbrev N_need_integer : List PySem.Str := ["value", "name", "least", "most"]
def t_need_integer [TabOf] (K : PySem.W.Frag) (C : Addr) (E : XK) : TS := tIfS (tOr (tNot (tB (tCall (spP C 1 G_is_integer) [] E0 (tCons (tVar 0) (tNil))))) (tOr (tTest (tOp (rLtX K) (tVar 0) (tVar 2))) (tTest (tOp rGtI (tVar 0) (tVar 3))))) (tRaiseBad C (fun cls d _ H => E cls d H) (tCons (tVar 1) tNil)) (tNext)
def F_need_integer : FS := sIf (fOr (fNot (fB (fCall G_is_integer (fCons (fVar 0) (fNil))))) (fOr (fB (fOp gLt (fVar 0) (fVar 2))) (fB (fOp gGt (fVar 0) (fVar 3))))) (sRaise (fVar 1)) (sNext)
def G_need_integer := runP 4 4 F_need_integer
theorem sc_need_integer : FnScope N_need_integer ["value", "name", "least", "most"] (defScope (top 5)) := ⟨rfl, rfl, rfl, by decide +kernel, rfl, by decide +kernel, by decide +kernel⟩
theorem e_need_integer [TabOf] {K : PySem.W.Frag} {C : Addr} (E : XK) : EvS true C E (t_need_integer K C E) F_need_integer := s_if (eb_or (eb_not (eb_val (ev_call (ea_cons (ev_var) (ea_nil)) (len_cons (len_nil))))) (eb_or (eb_test (ev_op (ev_var) ((ev_var).t) rd_lt)) (eb_test (ev_op (ev_var) ((ev_var).t) rd_gt)))) (s_raise (ev_var)) (s_next)
theorem w_need_integer [TabOf] {P : Program} {w : World} {K : PySem.W.Frag} {mg : PySem.Str → Option Value} {base : Heap} {C fI : Addr} (T : Tx P K mg base C fI) : Wk P w K mg base 2 "need_integer" (top 5) ["value", "name", "least", "most"] (spP C 4 G_need_integer) := by
  have w_is_integer := w_is_integer (w := w) T
  refine wk_P (C := C) T.a_need_integer sc_need_integer rfl (by decide) (fun _ _ _ _ _ _ us hl => match us, hl with | [_, _, _, _], _ => rfl) (t_need_integer K C) e_need_integer (fun f cdv hcv A outer s H E hr => ?_)
  exact pss_one (ps_if ((pw_or (pt_not (pt_val (pe_w w_is_integer hr passL (pa_cons (pv 0) (pa_nil))))) (pw_or (pt_cmpR (op_ltX hr.units0) (pv 0) (pv 2) (nomark _)) (pw_or1 (pt_cmpR op_gt (pv 0) (pv 3) (nomark _))))).pt) (pss_one (ps_raiseBad (by rfl) T.bad hr (by decide) (takes_of (by rfl) (by rfl) (by rfl) (by rfl)) (pa_cons (pv 1) pa_nil))) (pss_nil))
/-! ### is_tie -/
abbrev N_is_tie : List PySem.Str := ["value", "many", "one"]
def t_is_tie [TabOf] (K : PySem.W.Frag) (C : Addr) (E : XK) : TS := tSeq (tIfS (tOr (tNot (tB (tCB (rIsi K) (tCons (tVar 0) (tCons (tC (.ty "tuple")) tNil))))) (tOr (tTest (tOp (rNeD K) (tCB (rLenS K) (tCons (tVar 0) tNil)) (tC (.int 2)))) (tNot (tB (tCB (rAll K) (tCons (tLc (iSeq K (tVar 0)) (gName 2) (tYes) (tCall (spP C 1 G_is_integer) [] E0 (tCons (tVar 2) (tNil))) [2]) tNil)))))) (tRet (tC (.bl false))) (tNext)) (tRet (tChain3 rLeI (rLtX K) (rLtX K) (tC (.int 0)) (tOp (rIx K) (tVar 0) (tC (.int 0))) (tOp (rIx K) (tVar 0) (tC (.int 1))) (tVar 1)))
def F_is_tie : FS := sSeq (sIf (fOr (fNot (fB (fUn (gIsi "tuple") (fVar 0)))) (fOr (fB (fOp gNe (fUn gLen (fVar 0)) (fC (.int 2)))) (fNot (fB (fUn gAll (fLc (fSeq (fVar 0)) (tgN 2) (fYes) (fCall G_is_integer (fCons (fVar 2) (fNil))) [2])))))) (sRet (fC (.bool false))) (sNext)) (sRet (fChain3 gLe gLt gLt (fC (.int 0)) (fOp gIx (fVar 0) (fC (.int 0))) (fOp gIx (fVar 0) (fC (.int 1))) (fVar 1)))
def G_is_tie := runP 3 2 F_is_tie
theorem sc_is_tie : FnScope N_is_tie ["value", "many"] (defScope (top 6)) := ⟨rfl, rfl, rfl, by decide +kernel, rfl, by decide +kernel, by decide +kernel⟩
theorem e_is_tie [TabOf] {K : PySem.W.Frag} {C : Addr} (E : XK) : EvS true C E (t_is_tie K C E) F_is_tie := s_seq (s_if (eb_or (eb_not (eb_val (ev_isi isi_tuple ((ev_var).t)))) (eb_or (eb_test (ev_op (ev_call1 ((ev_var).t) rd_len) ((ev_cI 2).t) rd_neD)) (eb_not (eb_val (ev_call1 (((ef_lc (ei_seq (ev_var)) (eg_name) (eb_yes) (ev_call (ea_cons (ev_var) (ea_nil)) (len_cons (len_nil)))).ev).t) rd_all))))) (s_ret (ev_cB false)) (s_next)) (s_ret (ev_chain3 (ev_cI 0) (ev_op (ev_var) ((ev_cI 0).t) rd_ix) (ev_op (ev_var) ((ev_cI 1).t) rd_ix) (ev_var) rd_le rd_lt rd_lt))
theorem w_is_tie [TabOf] {P : Program} {w : World} {K : PySem.W.Frag} {mg : PySem.Str → Option Value} {base : Heap} {C fI : Addr} (T : Tx P K mg base C fI) : Wk P w K mg base 2 "is_tie" (top 6) ["value", "many"] (spP C 2 G_is_tie) := by
  have w_is_integer := w_is_integer (w := w) T
  refine wk_P (C := C) T.a_is_tie sc_is_tie rfl (by decide) (fun _ _ _ _ _ _ us hl => match us, hl with | [_, _], _ => rfl) (t_is_tie K C) e_is_tie (fun f cdv hcv A outer s H E hr => ?_)
  exact pss_cons (ps_if ((pw_or (pt_not (pt_val (pe_callB call_isi (by rfl) T.b_isinstance (by first | rfl | decide +kernel) (pa_cons (pv 0) (pa_cons (pe_bltn (by rfl) T.b_tuple (by first | rfl | decide +kernel) (by rfl)) pa_nil))))) (pw_or (pt_cmpR (op_neD hr.units) (pe_callB call_len_seq (by rfl) T.b_len (by first | rfl | decide +kernel) (pa_cons (pv 0) pa_nil)) (pe_int) (nomark _)) (pw_or1 (pt_not (pt_val (pe_callB (cr_all (by rfl)) (by rfl) T.b_all (by first | rfl | decide +kernel) (pa_cons (pe_lc (own := [("one", 2)]) (g := gName 2) (tt := tYes) (te := tCall (spP C 1 G_is_integer) [] E0 (tCons (tVar 2) (tNil))) (wi := iSeq K (tVar 0)) (by rfl) sc_is_tie.nd (pi_seq (pv 0)) (blkOk_by (by first | rfl | kernel_rfl)) (fun _ _ _ _ _ => pg_name (i := 2) sc_is_tie.nd (by rfl) (Or.inl (by rfl))) (fun _ _ _ _ _ => pts_nil) (fun _ _ _ _ _ => pe_w w_is_integer hr passL (pa_cons (pv 2) (pa_nil)))) pa_nil))))))).pt) (pss_one (ps_ret (pe_bl))) (pss_nil)) (pss_one (ps_ret (pe_chain3 op_le (op_ltX hr.units0) (op_ltX hr.units0) (pe_int) (pe_ix ix_seq (pv 0) (pe_int) (fun _ _ => rfl)) (pe_ix ix_seq (pv 0) (pe_int) (fun _ _ => rfl)) (pv 1))))
/-! ### is_some -/
abbrev N_is_some : List PySem.Str := ["web", "value", "at", "one"]
def t_is_some [TabOf] (K : PySem.W.Frag) (C : Addr) (E : XK) : TS := tSeq (tIfS (tOr (tNot (tB (tCB (rIsi K) (tCons (tVar 1) (tCons (tC (.ty "tuple")) tNil))))) (tNot (tB (tCB (rAll K) (tCons (tLc (iSeq K (tVar 1)) (gName 3) (tYes) (tAndV (tCall (spP C 1 G_is_integer) [] E0 (tCons (tVar 3) (tNil))) (tChain rLeI (rLtX K) (tC (.int 0)) (tVar 3) (tOp (rIx K) (tVar 0) (tC (.int 0))))) [3]) tNil))))) (tRet (tC (.bl false))) (tNext)) (tRet (tCB (rAll K) (tCons (tLc (iRng2 (tCons (tC (.int 1)) (tCons (tCB (rLenS K) (tCons (tVar 1) tNil)) (tNil)))) (gName 2) (tYes) (tOp (rLtX K) (tOp (rIx K) (tVar 1) (tOp rSubI (tVar 2) (tC (.int 1)))) (tOp (rIx K) (tVar 1) (tVar 2))) [2]) tNil)))
def F_is_some : FS := sSeq (sIf (fOr (fNot (fB (fUn (gIsi "tuple") (fVar 1)))) (fNot (fB (fUn gAll (fLc (fSeq (fVar 1)) (tgN 3) (fYes) (fAndV (fCall G_is_integer (fCons (fVar 3) (fNil))) (fChain gLe gLt (fC (.int 0)) (fVar 3) (fOp gIx (fVar 0) (fC (.int 0))))) [3]))))) (sRet (fC (.bool false))) (sNext)) (sRet (fUn gAll (fLc (fRg2 (fCons (fC (.int 1)) (fCons (fUn gLen (fVar 1)) (fNil)))) (tgN 2) (fYes) (fOp gLt (fOp gIx (fVar 1) (fOp gSubI (fVar 2) (fC (.int 1)))) (fOp gIx (fVar 1) (fVar 2))) [2])))
def G_is_some := runP 4 2 F_is_some
theorem sc_is_some : FnScope N_is_some ["web", "value"] (defScope (top 11)) := ⟨rfl, rfl, rfl, by decide +kernel, rfl, by decide +kernel, by decide +kernel⟩
theorem e_is_some [TabOf] {K : PySem.W.Frag} {C : Addr} (E : XK) : EvS true C E (t_is_some K C E) F_is_some := s_seq (s_if (eb_or (eb_not (eb_val (ev_isi isi_tuple ((ev_var).t)))) (eb_not (eb_val (ev_call1 (((ef_lc (ei_seq (ev_var)) (eg_name) (eb_yes) (ev_andV (ev_call (ea_cons (ev_var) (ea_nil)) (len_cons (len_nil))) (ev_chain (ev_cI 0) (ev_var) (ev_op (ev_var) ((ev_cI 0).t) rd_ix) rd_le rd_lt))).ev).t) rd_all)))) (s_ret (ev_cB false)) (s_next)) (s_ret (ev_call1 (((ef_lc (ei_rg2 (ea_cons (ev_cI 1) (ea_cons (ev_call1 ((ev_var).t) rd_len) (ea_nil)))) (eg_name) (eb_yes) (ev_op (ev_op (ev_var) ((ev_op (ev_var) ((ev_cI 1).t) rd_sub).t) rd_ix) ((ev_op (ev_var) ((ev_var).t) rd_ix).t) rd_lt)).ev).t) rd_all))
theorem w_is_some [TabOf] {P : Program} {w : World} {K : PySem.W.Frag} {mg : PySem.Str → Option Value} {base : Heap} {C fI : Addr} (T : Tx P K mg base C fI) : Wk P w K mg base 2 "is_some" (top 11) ["web", "value"] (spP C 2 G_is_some) := by
  have w_is_integer := w_is_integer (w := w) T
  refine wk_P (C := C) T.a_is_some sc_is_some rfl (by decide) (fun _ _ _ _ _ _ us hl => match us, hl with | [_, _], _ => rfl) (t_is_some K C) e_is_some (fun f cdv hcv A outer s H E hr => ?_)
  exact pss_cons (ps_if ((pw_or (pt_not (pt_val (pe_callB call_isi (by rfl) T.b_isinstance (by first | rfl | decide +kernel) (pa_cons (pv 1) (pa_cons (pe_bltn (by rfl) T.b_tuple (by first | rfl | decide +kernel) (by rfl)) pa_nil))))) (pw_or1 (pt_not (pt_val (pe_callB (cr_all (by rfl)) (by rfl) T.b_all (by first | rfl | decide +kernel) (pa_cons (pe_lc (own := [("one", 3)]) (g := gName 3) (tt := tYes) (te := tAndV (tCall (spP C 1 G_is_integer) [] E0 (tCons (tVar 3) (tNil))) (tChain rLeI (rLtX K) (tC (.int 0)) (tVar 3) (tOp (rIx K) (tVar 0) (tC (.int 0))))) (wi := iSeq K (tVar 1)) (by rfl) sc_is_some.nd (pi_seq (pv 1)) (blkOk_by (by first | rfl | kernel_rfl)) (fun _ _ _ _ _ => pg_name (i := 3) sc_is_some.nd (by rfl) (Or.inl (by rfl))) (fun _ _ _ _ _ => pts_nil) (fun _ _ _ _ _ => pe_and (pe_w w_is_integer hr passL (pa_cons (pv 3) (pa_nil))) (pe_one (pe_chain op_le (op_ltX hr.units0) (pe_int) (pv 3) (pe_ix ix_seq (pv 0) (pe_int) (fun _ _ => rfl)))))) pa_nil)))))).pt) (pss_one (ps_ret (pe_bl))) (pss_nil)) (pss_one (ps_ret (pe_callB (cr_all (by rfl)) (by rfl) T.b_all (by first | rfl | decide +kernel) (pa_cons (pe_lc (own := [("at", 2)]) (g := gName 2) (tt := tYes) (te := tOp (rLtX K) (tOp (rIx K) (tVar 1) (tOp rSubI (tVar 2) (tC (.int 1)))) (tOp (rIx K) (tVar 1) (tVar 2))) (wi := iRng2 (tCons (tC (.int 1)) (tCons (tCB (rLenS K) (tCons (tVar 1) tNil)) (tNil)))) (by rfl) sc_is_some.nd (pi_range2 (by rfl) T.b_range (pa_cons (pe_int) (pa_cons (pe_callB call_len_seq (by rfl) T.b_len (by first | rfl | decide +kernel) (pa_cons (pv 1) pa_nil)) (pa_nil)))) (blkOk_by (by first | rfl | kernel_rfl)) (fun _ _ _ _ _ => pg_name (i := 2) sc_is_some.nd (by rfl) (Or.inl (by rfl))) (fun _ _ _ _ _ => pts_nil) (fun _ _ _ _ _ => pe_cmpR (op_ltX hr.units0) (pe_ix ix_seq (pv 1) (pe_op op_sub (pv 2) (pe_int)) (fun _ _ => rfl)) (pe_ix ix_seq (pv 1) (pv 2) (fun _ _ => rfl)) (nomark _))) pa_nil))))
/-! ### table -/
abbrev N_table : List PySem.Str := ["web", "rows", "place", "other"]
def t_table [TabOf] (K : PySem.W.Frag) (C : Addr) (E : XK) : TS := tSeq (tAsg (tCall (spP C 1 G_sides) [] E0 (tCons (tVar 0) (tNil))) (gName 1)) (tRet (tLc (iRng1 (tCons (tOp (rIx K) (tVar 0) (tC (.int 0))) tNil)) (gName 2) (tYes) (tLc (iRng1 (tCons (tOp (rIx K) (tVar 0) (tC (.int 0))) tNil)) (gName 3) (tYes) (tIf (tTest (tOp (rInX K false) (tVar 3) (tOp (rIx K) (tVar 1) (tVar 2)))) (tC (.int 1)) (tC (.int 0))) [3]) [2]))
def F_table : FS := sSeq (sAsg (fCall G_sides (fCons (fVar 0) (fNil))) (tgN 1)) (sRet (fLc (fRg1 (fOp gIx (fVar 0) (fC (.int 0)))) (tgN 2) (fYes) (fLc (fRg1 (fOp gIx (fVar 0) (fC (.int 0)))) (tgN 3) (fYes) (fIf (fB (fOp (gIn false) (fVar 3) (fOp gIx (fVar 1) (fVar 2)))) (fC (.int 1)) (fC (.int 0))) [3]) [2]))
def G_table := runP 4 1 F_table
theorem sc_table : FnScope N_table ["web"] (defScope (top 23)) := ⟨rfl, rfl, rfl, by decide +kernel, rfl, by decide +kernel, by decide +kernel⟩
theorem e_table [TabOf] {K : PySem.W.Frag} {C : Addr} (E : XK) : EvS true C E (t_table K C E) F_table := s_seq (s_asg (ev_call (ea_cons (ev_var) (ea_nil)) (len_cons (len_nil))) eg_name) (s_ret ((ef_lc (ei_rg1 (ev_op (ev_var) ((ev_cI 0).t) rd_ix)) (eg_name) (eb_yes) ((ef_lc (ei_rg1 (ev_op (ev_var) ((ev_cI 0).t) rd_ix)) (eg_name) (eb_yes) (ev_if (eb_test (ev_op (ev_var) ((ev_op (ev_var) ((ev_var).t) rd_ix).t) rd_in)) (ev_cI 1) (ev_cI 0))).ev)).ev))
theorem w_table [TabOf] {P : Program} {w : World} {K : PySem.W.Frag} {mg : PySem.Str → Option Value} {base : Heap} {C fI : Addr} (T : Tx P K mg base C fI) : Wk P w K mg base 2 "table" (top 23) ["web"] (spP C 1 G_table) := by
  have w_sides := w_sides (w := w) T
  refine wk_P (C := C) T.a_table sc_table rfl (by decide) (fun _ _ _ _ _ _ us hl => match us, hl with | [_], _ => rfl) (t_table K C) e_table (fun f cdv hcv A outer s H E hr => ?_)
  exact pss_cons (ps_set (i := 1) sc_table.nd (by rfl) (Or.inr (by rfl)) (pe_w w_sides hr passL (pa_cons (pv 0) (pa_nil)))) (pss_one (ps_ret (pe_lc (own := [("place", 2)]) (g := gName 2) (tt := tYes) (te := tLc (iRng1 (tCons (tOp (rIx K) (tVar 0) (tC (.int 0))) tNil)) (gName 3) (tYes) (tIf (tTest (tOp (rInX K false) (tVar 3) (tOp (rIx K) (tVar 1) (tVar 2)))) (tC (.int 1)) (tC (.int 0))) [3]) (wi := iRng1 (tCons (tOp (rIx K) (tVar 0) (tC (.int 0))) tNil)) (by rfl) sc_table.nd (pi_range1 (by rfl) T.b_range (pa_cons (pe_ix ix_seq (pv 0) (pe_int) (fun _ _ => rfl)) pa_nil)) (blkOk_by (by first | rfl | kernel_rfl)) (fun _ _ _ _ _ => pg_name (i := 2) sc_table.nd (by rfl) (Or.inr (by rfl))) (fun _ _ _ _ _ => pts_nil) (fun _ _ _ _ _ => pe_lc (own := [("other", 3)]) (g := gName 3) (tt := tYes) (te := tIf (tTest (tOp (rInX K false) (tVar 3) (tOp (rIx K) (tVar 1) (tVar 2)))) (tC (.int 1)) (tC (.int 0))) (wi := iRng1 (tCons (tOp (rIx K) (tVar 0) (tC (.int 0))) tNil)) (by rfl) sc_table.nd (pi_range1 (by rfl) T.b_range (pa_cons (pe_ix ix_seq (pv 0) (pe_int) (fun _ _ => rfl)) pa_nil)) (blkOk_by (by first | rfl | kernel_rfl)) (fun _ _ _ _ _ => pg_name (i := 3) sc_table.nd (by rfl) (Or.inl (by rfl))) (fun _ _ _ _ _ => pts_nil) (fun _ _ _ _ _ => pe_ifExp (pt_cmpR (op_inX (Room.u65 hr)) (pv 3) (pe_ix ix_seq (pv 1) (pv 2) (fun _ _ => rfl)) (by rfl)) (pe_int) (pe_int))))))
/-! ### _law_pick -/
abbrev N__law_pick : List PySem.Str := ["dice", "things"]
def t__law_pick [TabOf] (K : PySem.W.Frag) (C : Addr) (E : XK) : TS := tRet (tOp (rIx K) (tVar 1) (tCall (spD 2 G__law_roll) [] E0 (tCons (tVar 0) (tCons (tCB (rLenS K) (tCons (tVar 1) tNil)) (tNil)))))
def F__law_pick : FS := sRet (fOp gIx (fVar 1) (fCallD 0 G__law_roll (fCons (fUn gLen (fVar 1)) (fNil))))
def G__law_pick := runD 2 2 F__law_pick
theorem sc__law_pick : FnScope N__law_pick ["dice", "things"] (defScope (top 31)) := ⟨rfl, rfl, rfl, by decide +kernel, rfl, by decide +kernel, by decide +kernel⟩
theorem e__law_pick [TabOf] {K : PySem.W.Frag} {C : Addr} (E : XK) : EvS false C E (t__law_pick K C E) F__law_pick := s_ret (ev_op (ev_var) ((ev_callD (ea_cons (ev_call1 ((ev_var).t) rd_len) (ea_nil)) (len_cons (len_nil))).t) rd_ix)
theorem w__law_pick [TabOf] {P : Program} {w : World} {K : PySem.W.Frag} {mg : PySem.Str → Option Value} {base : Heap} {C fI : Addr} (T : Tx P K mg base C fI) : Wk P w K mg base 2 "_law_pick" (top 31) ["dice", "things"] (spD 2 G__law_pick) := by
  have w__law_roll := w__law_roll (w := w) T
  refine wk_D (C := C) T.a__law_pick sc__law_pick rfl (by decide) (fun _ _ _ _ _ _ us hl => match us, hl with | [_, _], _ => rfl) (t__law_pick K C) e__law_pick (fun f cdv hcv A outer s H E hr => ?_)
  exact pss_one (ps_ret (pe_ix ix_seq (pv 1) (pe_w w__law_roll hr passL (pa_cons (pv 0) (pa_cons (pe_callB call_len_seq (by rfl) T.b_len (by first | rfl | decide +kernel) (pa_cons (pv 1) pa_nil)) (pa_nil)))) (fun _ _ => rfl)))
/-! ### _law_rounds -/
abbrev N__law_rounds : List PySem.Str := ["many", "steps", "pairs", "step", "at"]
def t__law_rounds [TabOf] (K : PySem.W.Frag) (C : Addr) (E : XK) : TS := tSeq (tAsg (tLst (tNil)) (gName 2)) (tSeq (tFor (iSeq K (tVar 1)) (gName 3) (tAsg (tOp (rAddX K) (tVar 2) (tLc (iRng1 (tCons (tVar 0) tNil)) (gName 4) (tYes) (tTup (tCons (tVar 4) (tCons (tOp rModI (tOp (rAddX K) (tVar 4) (tVar 3)) (tVar 0)) (tNil)))) [4])) (gName 2))) (tRet (tCall (spP C 2 G__law_web_of) [] E0 (tCons (tVar 0) (tCons (tVar 2) (tNil))))))
def F__law_rounds : FS := sSeq (sAsg (fLst (fNil)) (tgN 2)) (sSeq (sFor (fSeq (fVar 1)) (tgN 3) (sAsg (fOp gAdd (fVar 2) (fLc (fRg1 (fVar 0)) (tgN 4) (fYes) (fTup (fCons (fVar 4) (fCons (fOp gMod (fOp gAdd (fVar 4) (fVar 3)) (fVar 0)) (fNil)))) [4])) (tgN 2))) (sRet (fCall G__law_web_of (fCons (fVar 0) (fCons (fVar 2) (fNil))))))
def G__law_rounds := runP 5 2 F__law_rounds
theorem sc__law_rounds : FnScope N__law_rounds ["many", "steps"] (defScope (top 34)) := ⟨rfl, rfl, rfl, by decide +kernel, rfl, by decide +kernel, by decide +kernel⟩
theorem e__law_rounds [TabOf] {K : PySem.W.Frag} {C : Addr} (E : XK) : EvS true C E (t__law_rounds K C E) F__law_rounds := s_seq (s_asg (ev_lst (ea_nil) (len_nil)) eg_name) (s_seq (s_for (ei_seq (ev_var)) (eg_name) (s_asg (ev_op (ev_var) (((ef_lc (ei_rg1 (ev_var)) (eg_name) (eb_yes) (ev_tup (ea_cons (ev_var) (ea_cons (ev_op (ev_op (ev_var) ((ev_var).t) rd_add) ((ev_var).t) rd_mod) (ea_nil))) (len_cons (len_cons (len_nil))))).ev).t) rd_add) eg_name)) (s_ret (ev_call (ea_cons (ev_var) (ea_cons (ev_var) (ea_nil))) (len_cons (len_cons (len_nil))))))
theorem w__law_rounds [TabOf] {P : Program} {w : World} {K : PySem.W.Frag} {mg : PySem.Str → Option Value} {base : Heap} {C fI : Addr} (T : Tx P K mg base C fI) : Wk P w K mg base 2 "_law_rounds" (top 34) ["many", "steps"] (spP C 2 G__law_rounds) := by
  have w__law_web_of := w__law_web_of (w := w) T
  refine wk_P (C := C) T.a__law_rounds sc__law_rounds rfl (by decide) (fun _ _ _ _ _ _ us hl => match us, hl with | [_, _], _ => rfl) (t__law_rounds K C) e__law_rounds (fun f cdv hcv A outer s H E hr => ?_)
  exact pss_cons (ps_set (i := 2) sc__law_rounds.nd (by rfl) (Or.inl (by rfl)) (pe_lst (pa_nil))) (pss_cons (ps_for (passes_of (by rfl)) (by rfl) (pi_seq (pv 1)) (pg_name (i := 3) sc__law_rounds.nd (by rfl) (Or.inr (by rfl))) (pss_one (ps_set (i := 2) sc__law_rounds.nd (by rfl) (Or.inl (by rfl)) (pe_op op_addX (pv 2) (pe_lc (own := [("at", 4)]) (g := gName 4) (tt := tYes) (te := tTup (tCons (tVar 4) (tCons (tOp rModI (tOp (rAddX K) (tVar 4) (tVar 3)) (tVar 0)) (tNil)))) (wi := iRng1 (tCons (tVar 0) tNil)) (by rfl) sc__law_rounds.nd (pi_range1 (by rfl) T.b_range (pa_cons (pv 0) pa_nil)) (blkOk_by (by first | rfl | kernel_rfl)) (fun _ _ _ _ _ => pg_name (i := 4) sc__law_rounds.nd (by rfl) (Or.inl (by rfl))) (fun _ _ _ _ _ => pts_nil) (fun _ _ _ _ _ => pe_tup (pa_cons (pv 4) (pa_cons (pe_op op_mod (pe_op op_addX (pv 4) (pv 3)) (pv 0)) (pa_nil))))))))) (pss_one (ps_ret (pe_w w__law_web_of hr passL (pa_cons (pv 0) (pa_cons (pv 2) (pa_nil)))))))
/-! ### _law_mixed -/
abbrev N__law_mixed : List PySem.Str := ["dice", "most", "many", "dense", "pairs", "one", "other"]
def t__law_mixed [TabOf] (K : PySem.W.Frag) (C : Addr) (E : XK) : TS := tSeq (tAsg (tOp (rAddX K) (tC (.int 1)) (tCall (spD 2 G__law_roll) [] E0 (tCons (tVar 0) (tCons (tVar 1) (tNil))))) (gName 2)) (tSeq (tAsg (tOp (rAddX K) (tC (.int 2)) (tCall (spD 2 G__law_roll) [] E0 (tCons (tVar 0) (tCons (tC (.int 3)) (tNil))))) (gName 3)) (tSeq (tAsg (tLst (tNil)) (gName 4)) (tSeq (tFor (iRng1 (tCons (tVar 2) tNil)) (gName 5) (tAsg (tOp (rAddX K) (tVar 4) (tLc (iRng2 (tCons (tOp (rAddX K) (tVar 5) (tC (.int 1))) (tCons (tVar 2) (tNil)))) (gName 6) (tTest (tOp (rEqD K) (tCall (spD 2 G__law_roll) [] E0 (tCons (tVar 0) (tCons (tVar 3) (tNil)))) (tC (.int 0)))) (tTup (tCons (tVar 5) (tCons (tVar 6) (tNil)))) [6])) (gName 4))) (tRet (tCall (spP C 2 G__law_web_of) [] E0 (tCons (tVar 2) (tCons (tVar 4) (tNil))))))))
def F__law_mixed : FS := sSeq (sAsg (fOp gAdd (fC (.int 1)) (fCallD 0 G__law_roll (fCons (fVar 1) (fNil)))) (tgN 2)) (sSeq (sAsg (fOp gAdd (fC (.int 2)) (fCallD 0 G__law_roll (fCons (fC (.int 3)) (fNil)))) (tgN 3)) (sSeq (sAsg (fLst (fNil)) (tgN 4)) (sSeq (sFor (fRg1 (fVar 2)) (tgN 5) (sAsg (fOp gAdd (fVar 4) (fLc (fRg2 (fCons (fOp gAdd (fVar 5) (fC (.int 1))) (fCons (fVar 2) (fNil)))) (tgN 6) (fB (fOp gEq (fCallD 0 G__law_roll (fCons (fVar 3) (fNil))) (fC (.int 0)))) (fTup (fCons (fVar 5) (fCons (fVar 6) (fNil)))) [6])) (tgN 4))) (sRet (fCall G__law_web_of (fCons (fVar 2) (fCons (fVar 4) (fNil))))))))
def G__law_mixed := runD 7 2 F__law_mixed
theorem sc__law_mixed : FnScope N__law_mixed ["dice", "most"] (defScope (top 36)) := ⟨rfl, rfl, rfl, by decide +kernel, rfl, by decide +kernel, by decide +kernel⟩
theorem e__law_mixed [TabOf] {K : PySem.W.Frag} {C : Addr} (E : XK) : EvS false C E (t__law_mixed K C E) F__law_mixed := s_seq (s_asg (ev_op (ev_cI 1) ((ev_callD (ea_cons (ev_var) (ea_nil)) (len_cons (len_nil))).t) rd_add) eg_name) (s_seq (s_asg (ev_op (ev_cI 2) ((ev_callD (ea_cons (ev_cI 3) (ea_nil)) (len_cons (len_nil))).t) rd_add) eg_name) (s_seq (s_asg (ev_lst (ea_nil) (len_nil)) eg_name) (s_seq (s_for (ei_rg1 (ev_var)) (eg_name) (s_asg (ev_op (ev_var) (((ef_lc (ei_rg2 (ea_cons (ev_op (ev_var) ((ev_cI 1).t) rd_add) (ea_cons (ev_var) (ea_nil)))) (eg_name) (eb_test (ev_op (ev_callD (ea_cons (ev_var) (ea_nil)) (len_cons (len_nil))) ((ev_cI 0).t) rd_eqD)) (ev_tup (ea_cons (ev_var) (ea_cons (ev_var) (ea_nil))) (len_cons (len_cons (len_nil))))).ev).t) rd_add) eg_name)) (s_ret (ev_call (ea_cons (ev_var) (ea_cons (ev_var) (ea_nil))) (len_cons (len_cons (len_nil))))))))
theorem w__law_mixed [TabOf] {P : Program} {w : World} {K : PySem.W.Frag} {mg : PySem.Str → Option Value} {base : Heap} {C fI : Addr} (T : Tx P K mg base C fI) : Wk P w K mg base 2 "_law_mixed" (top 36) ["dice", "most"] (spD 2 G__law_mixed) := by
  have w__law_roll := w__law_roll (w := w) T
  have w__law_web_of := w__law_web_of (w := w) T
  refine wk_D (C := C) T.a__law_mixed sc__law_mixed rfl (by decide) (fun _ _ _ _ _ _ us hl => match us, hl with | [_, _], _ => rfl) (t__law_mixed K C) e__law_mixed (fun f cdv hcv A outer s H E hr => ?_)
  exact pss_cons (ps_set (i := 2) sc__law_mixed.nd (by rfl) (Or.inl (by rfl)) (pe_op op_addX (pe_int) (pe_w w__law_roll hr passL (pa_cons (pv 0) (pa_cons (pv 1) (pa_nil)))))) (pss_cons (ps_set (i := 3) sc__law_mixed.nd (by rfl) (Or.inr (by rfl)) (pe_op op_addX (pe_int) (pe_w w__law_roll hr passL (pa_cons (pv 0) (pa_cons (pe_int) (pa_nil)))))) (pss_cons (ps_set (i := 4) sc__law_mixed.nd (by rfl) (Or.inl (by rfl)) (pe_lst (pa_nil))) (pss_cons (ps_for (passes_of (by rfl)) (by rfl) (pi_range1 (by rfl) T.b_range (pa_cons (pv 2) pa_nil)) (pg_name (i := 5) sc__law_mixed.nd (by rfl) (Or.inr (by rfl))) (pss_one (ps_set (i := 4) sc__law_mixed.nd (by rfl) (Or.inl (by rfl)) (pe_op op_addX (pv 4) (pe_lc (own := [("other", 6)]) (g := gName 6) (tt := tTest (tOp (rEqD K) (tCall (spD 2 G__law_roll) [] E0 (tCons (tVar 0) (tCons (tVar 3) (tNil)))) (tC (.int 0)))) (te := tTup (tCons (tVar 5) (tCons (tVar 6) (tNil)))) (wi := iRng2 (tCons (tOp (rAddX K) (tVar 5) (tC (.int 1))) (tCons (tVar 2) (tNil)))) (by rfl) sc__law_mixed.nd (pi_range2 (by rfl) T.b_range (pa_cons (pe_op op_addX (pv 5) (pe_int)) (pa_cons (pv 2) (pa_nil)))) (blkOk_by (by first | rfl | kernel_rfl)) (fun _ _ _ _ _ => pg_name (i := 6) sc__law_mixed.nd (by rfl) (Or.inl (by rfl))) (fun _ _ _ _ _ => pts_one (pt_cmpR (op_eqD hr.units) (pe_w w__law_roll hr passL (pa_cons (pv 0) (pa_cons (pv 3) (pa_nil)))) (pe_int) (nomark _))) (fun _ _ _ _ _ => pe_tup (pa_cons (pv 5) (pa_cons (pv 6) (pa_nil))))))))) (pss_one (ps_ret (pe_w w__law_web_of hr passL (pa_cons (pv 2) (pa_cons (pv 4) (pa_nil)))))))))
/-! ### _law_shuffled -/
abbrev N__law_shuffled : List PySem.Str := ["dice", "many", "left", "found", "turn"]
def t__law_shuffled [TabOf] (K : PySem.W.Frag) (C : Addr) (E : XK) : TS := tSeq (tAsg (tLstRg (tRg1 (tVar 1))) (gName 2)) (tSeq (tAsg (tLst (tNil)) (gName 3)) (tSeq (tFor (iRng1 (tCons (tVar 1) tNil)) (gName 4) (tDrop (tBM K "list" rAppend (tVar 3) (tCons (tBM K "list" rPopAt (tVar 2) (tCons (tCall (spD 2 G__law_roll) [] E0 (tCons (tVar 0) (tCons (tCB (rLenS K) (tCons (tVar 2) tNil)) (tNil)))) tNil)) tNil)))) (tRet (tCB (rTupS K) (tCons (tVar 3) tNil)))))
def F__law_shuffled : FS := sSeq (sAsgMu 2 (fUn gLRg (fVar 1))) (sSeq (sAsgMu 3 (fLst (fNil))) (sSeq (sFor (fRg1 (fVar 1)) (tgN 4) (sDrop (fApp 3 (fPopAt 2 (fCallD 0 G__law_roll (fCons (fUn gLen (fMu 2)) (fNil))))))) (sRet (fUn gTuple (fMu 3)))))
def G__law_shuffled := runD 5 2 F__law_shuffled
theorem sc__law_shuffled : FnScope N__law_shuffled ["dice", "many"] (defScope (top 42)) := ⟨rfl, rfl, rfl, by decide +kernel, rfl, by decide +kernel, by decide +kernel⟩
theorem e__law_shuffled [TabOf] {K : PySem.W.Frag} {C : Addr} (E : XK) : EvS false C E (t__law_shuffled K C E) F__law_shuffled := s_seq (s_asgMu (ef_lrg (ev_var))) (s_seq (s_asgMu (ef_lst (ea_nil) (len_nil))) (s_seq (s_for (ei_rg1 (ev_var)) (eg_name) (s_drop (ev_app (ev_popAt (ev_callD (ea_cons (ev_call1 (ev_mu) rd_len) (ea_nil)) (len_cons (len_nil))))))) (s_ret (ev_call1 (ev_mu) rd_tuple))))
theorem w__law_shuffled [TabOf] {P : Program} {w : World} {K : PySem.W.Frag} {mg : PySem.Str → Option Value} {base : Heap} {C fI : Addr} (T : Tx P K mg base C fI) : Wk P w K mg base 2 "_law_shuffled" (top 42) ["dice", "many"] (spD 2 G__law_shuffled) := by
  have w__law_roll := w__law_roll (w := w) T
  refine wk_D (C := C) T.a__law_shuffled sc__law_shuffled rfl (by decide) (fun _ _ _ _ _ _ us hl => match us, hl with | [_, _], _ => rfl) (t__law_shuffled K C) e__law_shuffled (fun f cdv hcv A outer s H E hr => ?_)
  exact pss_cons (ps_set (i := 2) sc__law_shuffled.nd (by rfl) (Or.inl (by rfl)) (pe_listRg (by rfl) (by rfl) T.b_list (prg_1 (by rfl) T.b_range (pv 1)))) (pss_cons (ps_set (i := 3) sc__law_shuffled.nd (by rfl) (Or.inl (by rfl)) (pe_lst (pa_nil))) (pss_cons (ps_for (passes_of (by rfl)) (by rfl) (pi_range1 (by rfl) T.b_range (pa_cons (pv 1) pa_nil)) (pg_name (i := 4) sc__law_shuffled.nd (by rfl) (Or.inl (by rfl))) (pss_one (ps_expr (pe_bm PySem.F.plainAttrs_list PySem.F.slot_list_append PySem.F.type_list_append mt_append (pv 3) (pa_cons (pe_bm PySem.F.plainAttrs_list PySem.F.slot_list_pop PySem.F.type_list_pop mt_popAt (pv 2) (pa_cons (pe_w w__law_roll hr passL (pa_cons (pv 0) (pa_cons (pe_callB call_len_seq (by rfl) T.b_len (by first | rfl | decide +kernel) (pa_cons (pv 2) pa_nil)) (pa_nil)))) pa_nil)) pa_nil))))) (pss_one (ps_ret (pe_callTy call_tuple_of (by rfl) T.b_tuple (by first | rfl | decide +kernel) (pa_cons (pv 3) pa_nil))))))
/-! ### _law_is_own_switch -/
abbrev N__law_is_own_switch : List PySem.Str := ["web", "places", "rows", "own", "at", "to"]
def t__law_is_own_switch [TabOf] (K : PySem.W.Frag) (C : Addr) (E : XK) : TS := tSeq (tAsg (tCall (spP C 1 G__law_sides) [] E0 (tCons (tVar 0) (tNil))) (gName 2)) (tSeq (tAsg (tLc (iRng1 (tCons (tOp (rIx K) (tVar 0) (tC (.int 0))) tNil)) (gName 4) (tYes) (tCB (rLenS K) (tCons (tLc (iSeq K (tOp (rIx K) (tVar 2) (tVar 4))) (gName 5) (tTest (tOp (rInX K false) (tVar 5) (tVar 1))) (tVar 5) [5]) tNil)) [4]) (gName 3)) (tSeq (tIfS (tOr (tTest (tOp (rEqD K) (tCB (rLenS K) (tCons (tVar 1) tNil)) (tC (.int 0)))) (tTest (tOp rGtI (tCB (rLenS K) (tCons (tLc (iSeq K (tVar 1)) (gName 4) (tTest (tOp (rNeD K) (tOp (rIx K) (tVar 3) (tVar 4)) (tOp (rIx K) (tVar 3) (tOp (rIx K) (tVar 1) (tC (.int 0)))))) (tVar 4) [4]) tNil)) (tC (.int 0))))) (tRet (tC (.bl false))) (tNext)) (tRet (tOp (rEqD K) (tCB (rLenS K) (tCons (tLc (iRng1 (tCons (tOp (rIx K) (tVar 0) (tC (.int 0))) tNil)) (gName 4) (tAnd (tTest (tOp (rInX K true) (tVar 4) (tVar 1))) (tAnd (tTest (tOp (rInX K true) (tOp (rIx K) (tVar 3) (tVar 4)) (tTup (tCons (tC (.int 0)) (tCons (tCB (rLenS K) (tCons (tVar 1) tNil)) (tNil)))))) (tTest (tOp (rNeD K) (tOp rMulX (tC (.int 2)) (tOp (rIx K) (tVar 3) (tVar 4))) (tCB (rLenS K) (tCons (tVar 1) tNil)))))) (tVar 4) [4]) tNil)) (tC (.int 0))))))
def F__law_is_own_switch : FS := sSeq (sAsg (fCall G__law_sides (fCons (fVar 0) (fNil))) (tgN 2)) (sSeq (sAsg (fLc (fRg1 (fOp gIx (fVar 0) (fC (.int 0)))) (tgN 4) (fYes) (fUn gLen (fLc (fSeq (fOp gIx (fVar 2) (fVar 4))) (tgN 5) (fB (fOp (gIn false) (fVar 5) (fVar 1))) (fVar 5) [5])) [4]) (tgN 3)) (sSeq (sIf (fOr (fB (fOp gEq (fUn gLen (fVar 1)) (fC (.int 0)))) (fB (fOp gGt (fUn gLen (fLc (fSeq (fVar 1)) (tgN 4) (fB (fOp gNe (fOp gIx (fVar 3) (fVar 4)) (fOp gIx (fVar 3) (fOp gIx (fVar 1) (fC (.int 0)))))) (fVar 4) [4])) (fC (.int 0))))) (sRet (fC (.bool false))) (sNext)) (sRet (fOp gEq (fUn gLen (fLc (fRg1 (fOp gIx (fVar 0) (fC (.int 0)))) (tgN 4) (fAnd (fB (fOp (gIn true) (fVar 4) (fVar 1))) (fAnd (fB (fOp (gIn true) (fOp gIx (fVar 3) (fVar 4)) (fTup (fCons (fC (.int 0)) (fCons (fUn gLen (fVar 1)) (fNil)))))) (fB (fOp gNe (fOp gMul (fC (.int 2)) (fOp gIx (fVar 3) (fVar 4))) (fUn gLen (fVar 1)))))) (fVar 4) [4])) (fC (.int 0))))))
def G__law_is_own_switch := runP 6 2 F__law_is_own_switch
theorem sc__law_is_own_switch : FnScope N__law_is_own_switch ["web", "places"] (defScope (top 43)) := ⟨rfl, rfl, rfl, by decide +kernel, rfl, by decide +kernel, by decide +kernel⟩
theorem e__law_is_own_switch [TabOf] {K : PySem.W.Frag} {C : Addr} (E : XK) : EvS true C E (t__law_is_own_switch K C E) F__law_is_own_switch := s_seq (s_asg (ev_call (ea_cons (ev_var) (ea_nil)) (len_cons (len_nil))) eg_name) (s_seq (s_asg ((ef_lc (ei_rg1 (ev_op (ev_var) ((ev_cI 0).t) rd_ix)) (eg_name) (eb_yes) (ev_call1 (((ef_lc (ei_seq (ev_op (ev_var) ((ev_var).t) rd_ix)) (eg_name) (eb_test (ev_op (ev_var) ((ev_var).t) rd_in)) (ev_var)).ev).t) rd_len)).ev) eg_name) (s_seq (s_if (eb_or (eb_test (ev_op (ev_call1 ((ev_var).t) rd_len) ((ev_cI 0).t) rd_eqD)) (eb_test (ev_op (ev_call1 (((ef_lc (ei_seq (ev_var)) (eg_name) (eb_test (ev_op (ev_op (ev_var) ((ev_var).t) rd_ix) ((ev_op (ev_var) ((ev_op (ev_var) ((ev_cI 0).t) rd_ix).t) rd_ix).t) rd_neD)) (ev_var)).ev).t) rd_len) ((ev_cI 0).t) rd_gt))) (s_ret (ev_cB false)) (s_next)) (s_ret (ev_op (ev_call1 (((ef_lc (ei_rg1 (ev_op (ev_var) ((ev_cI 0).t) rd_ix)) (eg_name) (eb_and (eb_test (ev_op (ev_var) ((ev_var).t) rd_in)) (eb_and (eb_test (ev_op (ev_op (ev_var) ((ev_var).t) rd_ix) ((ev_tup (ea_cons (ev_cI 0) (ea_cons (ev_call1 ((ev_var).t) rd_len) (ea_nil))) (len_cons (len_cons (len_nil)))).t) rd_in)) (eb_test (ev_op (ev_op (ev_cI 2) ((ev_op (ev_var) ((ev_var).t) rd_ix).t) rd_mul) ((ev_call1 ((ev_var).t) rd_len).t) rd_neD)))) (ev_var)).ev).t) rd_len) ((ev_cI 0).t) rd_eqD))))
theorem w__law_is_own_switch [TabOf] {P : Program} {w : World} {K : PySem.W.Frag} {mg : PySem.Str → Option Value} {base : Heap} {C fI : Addr} (T : Tx P K mg base C fI) : Wk P w K mg base 2 "_law_is_own_switch" (top 43) ["web", "places"] (spP C 2 G__law_is_own_switch) := by
  have w__law_sides := w__law_sides (w := w) T
  refine wk_P (C := C) T.a__law_is_own_switch sc__law_is_own_switch rfl (by decide) (fun _ _ _ _ _ _ us hl => match us, hl with | [_, _], _ => rfl) (t__law_is_own_switch K C) e__law_is_own_switch (fun f cdv hcv A outer s H E hr => ?_)
  exact pss_cons (ps_set (i := 2) sc__law_is_own_switch.nd (by rfl) (Or.inr (by rfl)) (pe_w w__law_sides hr passL (pa_cons (pv 0) (pa_nil)))) (pss_cons (ps_set (i := 3) sc__law_is_own_switch.nd (by rfl) (Or.inr (by rfl)) (pe_lc (own := [("at", 4)]) (g := gName 4) (tt := tYes) (te := tCB (rLenS K) (tCons (tLc (iSeq K (tOp (rIx K) (tVar 2) (tVar 4))) (gName 5) (tTest (tOp (rInX K false) (tVar 5) (tVar 1))) (tVar 5) [5]) tNil)) (wi := iRng1 (tCons (tOp (rIx K) (tVar 0) (tC (.int 0))) tNil)) (by rfl) sc__law_is_own_switch.nd (pi_range1 (by rfl) T.b_range (pa_cons (pe_ix ix_seq (pv 0) (pe_int) (fun _ _ => rfl)) pa_nil)) (blkOk_by (by first | rfl | kernel_rfl)) (fun _ _ _ _ _ => pg_name (i := 4) sc__law_is_own_switch.nd (by rfl) (Or.inl (by rfl))) (fun _ _ _ _ _ => pts_nil) (fun _ _ _ _ _ => pe_callB call_len_seq (by rfl) T.b_len (by first | rfl | decide +kernel) (pa_cons (pe_lc (own := [("to", 5)]) (g := gName 5) (tt := tTest (tOp (rInX K false) (tVar 5) (tVar 1))) (te := tVar 5) (wi := iSeq K (tOp (rIx K) (tVar 2) (tVar 4))) (by rfl) sc__law_is_own_switch.nd (pi_seq (pe_ix ix_seq (pv 2) (pv 4) (fun _ _ => rfl))) (blkOk_by (by first | rfl | kernel_rfl)) (fun _ _ _ _ _ => pg_name (i := 5) sc__law_is_own_switch.nd (by rfl) (Or.inl (by rfl))) (fun _ _ _ _ _ => pts_one (pt_cmpR (op_inX (Room.u65 hr)) (pv 5) (pv 1) (by rfl))) (fun _ _ _ _ _ => pv 5)) pa_nil)))) (pss_cons (ps_if ((pw_or (pt_cmpR (op_eqD hr.units) (pe_callB call_len_seq (by rfl) T.b_len (by first | rfl | decide +kernel) (pa_cons (pv 1) pa_nil)) (pe_int) (nomark _)) (pw_or1 (pt_cmpR op_gt (pe_callB call_len_seq (by rfl) T.b_len (by first | rfl | decide +kernel) (pa_cons (pe_lc (own := [("at", 4)]) (g := gName 4) (tt := tTest (tOp (rNeD K) (tOp (rIx K) (tVar 3) (tVar 4)) (tOp (rIx K) (tVar 3) (tOp (rIx K) (tVar 1) (tC (.int 0)))))) (te := tVar 4) (wi := iSeq K (tVar 1)) (by rfl) sc__law_is_own_switch.nd (pi_seq (pv 1)) (blkOk_by (by first | rfl | kernel_rfl)) (fun _ _ _ _ _ => pg_name (i := 4) sc__law_is_own_switch.nd (by rfl) (Or.inl (by rfl))) (fun _ _ _ _ _ => pts_one (pt_cmpR (op_neD hr.units) (pe_ix ix_seq (pv 3) (pv 4) (fun _ _ => rfl)) (pe_ix ix_seq (pv 3) (pe_ix ix_seq (pv 1) (pe_int) (fun _ _ => rfl)) (fun _ _ => rfl)) (nomark _))) (fun _ _ _ _ _ => pv 4)) pa_nil)) (pe_int) (nomark _)))).pt) (pss_one (ps_ret (pe_bl))) (pss_nil)) (pss_one (ps_ret (pe_cmpR (op_eqD hr.units) (pe_callB call_len_seq (by rfl) T.b_len (by first | rfl | decide +kernel) (pa_cons (pe_lc (own := [("at", 4)]) (g := gName 4) (tt := tAnd (tTest (tOp (rInX K true) (tVar 4) (tVar 1))) (tAnd (tTest (tOp (rInX K true) (tOp (rIx K) (tVar 3) (tVar 4)) (tTup (tCons (tC (.int 0)) (tCons (tCB (rLenS K) (tCons (tVar 1) tNil)) (tNil)))))) (tTest (tOp (rNeD K) (tOp rMulX (tC (.int 2)) (tOp (rIx K) (tVar 3) (tVar 4))) (tCB (rLenS K) (tCons (tVar 1) tNil)))))) (te := tVar 4) (wi := iRng1 (tCons (tOp (rIx K) (tVar 0) (tC (.int 0))) tNil)) (by rfl) sc__law_is_own_switch.nd (pi_range1 (by rfl) T.b_range (pa_cons (pe_ix ix_seq (pv 0) (pe_int) (fun _ _ => rfl)) pa_nil)) (blkOk_by (by first | rfl | kernel_rfl)) (fun _ _ _ _ _ => pg_name (i := 4) sc__law_is_own_switch.nd (by rfl) (Or.inl (by rfl))) (fun _ _ _ _ _ => pts_one ((pw_and (pt_cmpR (op_notInX (Room.u65 hr)) (pv 4) (pv 1) (by rfl)) (pw_and (pt_cmpR (op_notInX (Room.u65 hr)) (pe_ix ix_seq (pv 3) (pv 4) (fun _ _ => rfl)) (pe_tup (pa_cons (pe_int) (pa_cons (pe_callB call_len_seq (by rfl) T.b_len (by first | rfl | decide +kernel) (pa_cons (pv 1) pa_nil)) (pa_nil)))) (by rfl)) (pw_and1 (pt_cmpR (op_neD hr.units) (pe_op op_mulX (pe_int) (pe_ix ix_seq (pv 3) (pv 4) (fun _ _ => rfl))) (pe_callB call_len_seq (by rfl) T.b_len (by first | rfl | decide +kernel) (pa_cons (pv 1) pa_nil)) (nomark _))))).pt)) (fun _ _ _ _ _ => pv 4)) pa_nil)) (pe_int) (nomark _))))))
/-! ### _law_own_switched -/
abbrev N__law_own_switched : List PySem.Str := ["web", "places", "rows", "ties", "own", "one", "other", "tied", "at", "to"]
def t__law_own_switched [TabOf] (K : PySem.W.Frag) (C : Addr) (E : XK) : TS := tSeq (tAsg (tTup (tCons (tCall (spP C 1 G__law_sides) [] E0 (tCons (tVar 0) (tNil))) (tCons (tLst (tNil)) tNil))) (gTup K 2 (gCons (gName 2) (gCons (gName 3) (gNil))))) (tSeq (tAsg (tLc (iRng1 (tCons (tOp (rIx K) (tVar 0) (tC (.int 0))) tNil)) (gName 8) (tYes) (tCB (rLenS K) (tCons (tLc (iSeq K (tOp (rIx K) (tVar 2) (tVar 8))) (gName 9) (tTest (tOp (rInX K false) (tVar 9) (tVar 1))) (tVar 9) [9]) tNil)) [8]) (gName 4)) (tSeq (tFor (iSeq K (tCall (spP C 2 G__law_some) [] E0 (tCons (tOp (rIx K) (tVar 0) (tC (.int 0))) (tCons (tC (.int 2)) (tNil))))) (gTup K 2 (gCons (gName 5) (gCons (gName 6) (gNil)))) (tSeq (tAsg (tOp (rInX K false) (tVar 6) (tOp (rIx K) (tVar 2) (tVar 5))) (gName 7)) (tSeq (tIfS (tAnd (tTest (tOp (rInX K false) (tVar 5) (tVar 1))) (tAnd (tTest (tOp (rInX K true) (tVar 6) (tVar 1))) (tTest (tOp (rEqD K) (tOp rMulX (tC (.int 2)) (tOp (rIx K) (tVar 4) (tVar 6))) (tCB (rLenS K) (tCons (tVar 1) tNil)))))) (tAsg (tNotV (tVar 7)) (gName 7)) (tIfS (tAnd (tTest (tOp (rInX K false) (tVar 6) (tVar 1))) (tAnd (tTest (tOp (rInX K true) (tVar 5) (tVar 1))) (tTest (tOp (rEqD K) (tOp rMulX (tC (.int 2)) (tOp (rIx K) (tVar 4) (tVar 5))) (tCB (rLenS K) (tCons (tVar 1) tNil)))))) (tAsg (tNotV (tVar 7)) (gName 7)) (tNext))) (tIfS (tB (tVar 7)) (tDrop (tBM K "list" rAppend (tVar 3) (tCons (tTup (tCons (tVar 5) (tCons (tVar 6) (tNil)))) tNil))) (tNext))))) (tRet (tTup (tCons (tOp (rIx K) (tVar 0) (tC (.int 0))) (tCons (tCB (rTupS K) (tCons (tVar 3) tNil)) (tNil)))))))
def F__law_own_switched : FS := sSeq (sParF 2 3 (fCall G__law_sides (fCons (fVar 0) (fNil))) (fLst (fNil))) (sSeq (sAsg (fLc (fRg1 (fOp gIx (fVar 0) (fC (.int 0)))) (tgN 8) (fYes) (fUn gLen (fLc (fSeq (fOp gIx (fVar 2) (fVar 8))) (tgN 9) (fB (fOp (gIn false) (fVar 9) (fVar 1))) (fVar 9) [9])) [8]) (tgN 4)) (sSeq (sFor (fSeq (fCall G__law_some (fCons (fOp gIx (fVar 0) (fC (.int 0))) (fCons (fC (.int 2)) (fNil))))) (tgT [5, 6]) (sSeq (sAsg (fOp (gIn false) (fVar 6) (fOp gIx (fVar 2) (fVar 5))) (tgN 7)) (sSeq (sIf (fAnd (fB (fOp (gIn false) (fVar 5) (fVar 1))) (fAnd (fB (fOp (gIn true) (fVar 6) (fVar 1))) (fB (fOp gEq (fOp gMul (fC (.int 2)) (fOp gIx (fVar 4) (fVar 6))) (fUn gLen (fVar 1)))))) (sAsg (fNotV (fVar 7)) (tgN 7)) (sIf (fAnd (fB (fOp (gIn false) (fVar 6) (fVar 1))) (fAnd (fB (fOp (gIn true) (fVar 5) (fVar 1))) (fB (fOp gEq (fOp gMul (fC (.int 2)) (fOp gIx (fVar 4) (fVar 5))) (fUn gLen (fVar 1)))))) (sAsg (fNotV (fVar 7)) (tgN 7)) (sNext))) (sIf (fB (fVar 7)) (sDrop (fApp 3 (fTup (fCons (fVar 5) (fCons (fVar 6) (fNil)))))) (sNext))))) (sRet (fTup (fCons (fOp gIx (fVar 0) (fC (.int 0))) (fCons (fUn gTuple (fMu 3)) (fNil)))))))
def G__law_own_switched := runP 10 2 F__law_own_switched
theorem sc__law_own_switched : FnScope N__law_own_switched ["web", "places"] (defScope (top 44)) := ⟨rfl, rfl, rfl, by decide +kernel, rfl, by decide +kernel, by decide +kernel⟩
theorem e__law_own_switched [TabOf] {K : PySem.W.Frag} {C : Addr} (E : XK) : EvS true C E (t__law_own_switched K C E) F__law_own_switched := s_seq (s_parT (ev_call (ea_cons (ev_var) (ea_nil)) (len_cons (len_nil))) (ef_lst (ea_nil) (len_nil))) (s_seq (s_asg ((ef_lc (ei_rg1 (ev_op (ev_var) ((ev_cI 0).t) rd_ix)) (eg_name) (eb_yes) (ev_call1 (((ef_lc (ei_seq (ev_op (ev_var) ((ev_var).t) rd_ix)) (eg_name) (eb_test (ev_op (ev_var) ((ev_var).t) rd_in)) (ev_var)).ev).t) rd_len)).ev) eg_name) (s_seq (s_for (ei_seq (ev_call (ea_cons (ev_op (ev_var) ((ev_cI 0).t) rd_ix) (ea_cons (ev_cI 2) (ea_nil))) (len_cons (len_cons (len_nil))))) (eg_tup (egs_cons (egs_cons (egs_nil)))) (s_seq (s_asg (ev_op (ev_var) ((ev_op (ev_var) ((ev_var).t) rd_ix).t) rd_in) eg_name) (s_seq (s_if (eb_and (eb_test (ev_op (ev_var) ((ev_var).t) rd_in)) (eb_and (eb_test (ev_op (ev_var) ((ev_var).t) rd_in)) (eb_test (ev_op (ev_op (ev_cI 2) ((ev_op (ev_var) ((ev_var).t) rd_ix).t) rd_mul) ((ev_call1 ((ev_var).t) rd_len).t) rd_eqD)))) (s_asg (ev_notV (ev_var)) eg_name) (s_if (eb_and (eb_test (ev_op (ev_var) ((ev_var).t) rd_in)) (eb_and (eb_test (ev_op (ev_var) ((ev_var).t) rd_in)) (eb_test (ev_op (ev_op (ev_cI 2) ((ev_op (ev_var) ((ev_var).t) rd_ix).t) rd_mul) ((ev_call1 ((ev_var).t) rd_len).t) rd_eqD)))) (s_asg (ev_notV (ev_var)) eg_name) (s_next))) (s_if (eb_val (ev_var)) (s_drop (ev_app (ev_tup (ea_cons (ev_var) (ea_cons (ev_var) (ea_nil))) (len_cons (len_cons (len_nil)))))) (s_next))))) (s_ret (ev_tup (ea_cons (ev_op (ev_var) ((ev_cI 0).t) rd_ix) (ea_cons (ev_call1 (ev_mu) rd_tuple) (ea_nil))) (len_cons (len_cons (len_nil)))))))
theorem w__law_own_switched [TabOf] {P : Program} {w : World} {K : PySem.W.Frag} {mg : PySem.Str → Option Value} {base : Heap} {C fI : Addr} (T : Tx P K mg base C fI) : Wk P w K mg base 2 "_law_own_switched" (top 44) ["web", "places"] (spP C 2 G__law_own_switched) := by
  have w__law_sides := w__law_sides (w := w) T
  have w__law_some := w__law_some (w := w) T
  refine wk_P (C := C) T.a__law_own_switched sc__law_own_switched rfl (by decide) (fun _ _ _ _ _ _ us hl => match us, hl with | [_, _], _ => rfl) (t__law_own_switched K C) e__law_own_switched (fun f cdv hcv A outer s H E hr => ?_)
  exact pss_cons (ps_asg (pe_tup (pa_cons (pe_w w__law_sides hr passL (pa_cons (pv 0) (pa_nil))) (pa_cons (pe_lst (pa_nil)) pa_nil))) (pg_tup (by rfl) (pgs_cons (pg_name (i := 2) sc__law_own_switched.nd (by rfl) (Or.inr (by rfl))) (pgs_cons (pg_name (i := 3) sc__law_own_switched.nd (by rfl) (Or.inl (by rfl))) (pgs_nil))))) (pss_cons (ps_setLc (i := 4) (own := [("at", 8)]) (g := gName 8) (tt := tYes) (te := tCB (rLenS K) (tCons (tLc (iSeq K (tOp (rIx K) (tVar 2) (tVar 8))) (gName 9) (tTest (tOp (rInX K false) (tVar 9) (tVar 1))) (tVar 9) [9]) tNil)) (wi := iRng1 (tCons (tOp (rIx K) (tVar 0) (tC (.int 0))) tNil)) (by rfl) sc__law_own_switched.nd (by rfl) (by rfl) (sw_true (by rfl) (by rfl) (by rfl) (by first | rfl | kernel_rfl)) (pi_range1 (by rfl) T.b_range (pa_cons (pe_ix ix_seq (pv 0) (pe_int) (fun _ _ => rfl)) pa_nil)) (blkOk_by (by first | rfl | kernel_rfl)) (fun _ _ _ _ _ => pg_name (i := 8) sc__law_own_switched.nd (by rfl) (Or.inl (by rfl))) (fun _ _ _ _ _ => pts_nil) (fun _ _ _ _ _ => pe_callB call_len_seq (by rfl) T.b_len (by first | rfl | decide +kernel) (pa_cons (pe_lc (own := [("to", 9)]) (g := gName 9) (tt := tTest (tOp (rInX K false) (tVar 9) (tVar 1))) (te := tVar 9) (wi := iSeq K (tOp (rIx K) (tVar 2) (tVar 8))) (by rfl) sc__law_own_switched.nd (pi_seq (pe_ix ix_seq (pv 2) (pv 8) (fun _ _ => rfl))) (blkOk_by (by first | rfl | kernel_rfl)) (fun _ _ _ _ _ => pg_name (i := 9) sc__law_own_switched.nd (by rfl) (Or.inl (by rfl))) (fun _ _ _ _ _ => pts_one (pt_cmpR (op_inX (Room.u65 hr)) (pv 9) (pv 1) (by rfl))) (fun _ _ _ _ _ => pv 9)) pa_nil))) (pss_cons (ps_for (passes_of (by rfl)) (by rfl) (pi_seq (pe_w w__law_some hr passL (pa_cons (pe_ix ix_seq (pv 0) (pe_int) (fun _ _ => rfl)) (pa_cons (pe_int) (pa_nil))))) (pg_tup (by rfl) (pgs_cons (pg_name (i := 5) sc__law_own_switched.nd (by rfl) (Or.inl (by rfl))) (pgs_cons (pg_name (i := 6) sc__law_own_switched.nd (by rfl) (Or.inl (by rfl))) (pgs_nil)))) (pss_cons (ps_set (i := 7) sc__law_own_switched.nd (by rfl) (Or.inl (by rfl)) (pe_cmpR (op_inX (Room.u65 hr)) (pv 6) (pe_ix ix_seq (pv 2) (pv 5) (fun _ _ => rfl)) (by rfl))) (pss_cons (ps_if ((pw_and (pt_cmpR (op_inX (Room.u65 hr)) (pv 5) (pv 1) (by rfl)) (pw_and (pt_cmpR (op_notInX (Room.u65 hr)) (pv 6) (pv 1) (by rfl)) (pw_and1 (pt_cmpR (op_eqD hr.units) (pe_op op_mulX (pe_int) (pe_ix ix_seq (pv 4) (pv 6) (fun _ _ => rfl))) (pe_callB call_len_seq (by rfl) T.b_len (by first | rfl | decide +kernel) (pa_cons (pv 1) pa_nil)) (nomark _))))).pt) (pss_one (ps_set (i := 7) sc__law_own_switched.nd (by rfl) (Or.inl (by rfl)) (pe_not (pv 7)))) (pss_one (ps_if ((pw_and (pt_cmpR (op_inX (Room.u65 hr)) (pv 6) (pv 1) (by rfl)) (pw_and (pt_cmpR (op_notInX (Room.u65 hr)) (pv 5) (pv 1) (by rfl)) (pw_and1 (pt_cmpR (op_eqD hr.units) (pe_op op_mulX (pe_int) (pe_ix ix_seq (pv 4) (pv 5) (fun _ _ => rfl))) (pe_callB call_len_seq (by rfl) T.b_len (by first | rfl | decide +kernel) (pa_cons (pv 1) pa_nil)) (nomark _))))).pt) (pss_one (ps_set (i := 7) sc__law_own_switched.nd (by rfl) (Or.inl (by rfl)) (pe_not (pv 7)))) (pss_nil)))) (pss_one (ps_if (pt_val (pv 7)) (pss_one (ps_expr (pe_bm PySem.F.plainAttrs_list PySem.F.slot_list_append PySem.F.type_list_append mt_append (pv 3) (pa_cons (pe_tup (pa_cons (pv 5) (pa_cons (pv 6) (pa_nil)))) pa_nil)))) (pss_nil)))))) (pss_one (ps_ret (pe_tup (pa_cons (pe_ix ix_seq (pv 0) (pe_int) (fun _ _ => rfl)) (pa_cons (pe_callTy call_tuple_of (by rfl) T.b_tuple (by first | rfl | decide +kernel) (pa_cons (pv 3) pa_nil)) (pa_nil))))))))
/-! ### _law_odd_triples -/
abbrev N__law_odd_triples : List PySem.Str := ["web", "some", "tie"]
def t__law_odd_triples [TabOf] (K : PySem.W.Frag) (C : Addr) (E : XK) : TS := tRet (tCB (rLenS K) (tCons (tLc (iSeq K (tCall (spP C 2 G__law_some) [] E0 (tCons (tOp (rIx K) (tVar 0) (tC (.int 0))) (tCons (tC (.int 3)) (tNil))))) (gName 1) (tTest (tOp (rEqD K) (tOp rModI (tCB rIntI (tCons (tCB (rLenS K) (tCons (tLc (iSeq K (tOp (rIx K) (tVar 0) (tC (.int 1)))) (gName 2) (tAnd (tTest (tOp (rInX K false) (tOp (rIx K) (tVar 2) (tC (.int 0))) (tVar 1))) (tTest (tOp (rInX K false) (tOp (rIx K) (tVar 2) (tC (.int 1))) (tVar 1)))) (tVar 2) [2]) tNil)) tNil)) (tC (.int 2))) (tC (.int 1)))) (tVar 1) [1]) tNil))
def F__law_odd_triples : FS := sRet (fUn gLen (fLc (fSeq (fCall G__law_some (fCons (fOp gIx (fVar 0) (fC (.int 0))) (fCons (fC (.int 3)) (fNil))))) (tgN 1) (fB (fOp gEq (fOp gMod (fUn gInt (fUn gLen (fLc (fSeq (fOp gIx (fVar 0) (fC (.int 1)))) (tgN 2) (fAnd (fB (fOp (gIn false) (fOp gIx (fVar 2) (fC (.int 0))) (fVar 1))) (fB (fOp (gIn false) (fOp gIx (fVar 2) (fC (.int 1))) (fVar 1)))) (fVar 2) [2]))) (fC (.int 2))) (fC (.int 1)))) (fVar 1) [1]))
def G__law_odd_triples := runP 3 1 F__law_odd_triples
theorem sc__law_odd_triples : FnScope N__law_odd_triples ["web"] (defScope (top 46)) := ⟨rfl, rfl, rfl, by decide +kernel, rfl, by decide +kernel, by decide +kernel⟩
theorem e__law_odd_triples [TabOf] {K : PySem.W.Frag} {C : Addr} (E : XK) : EvS true C E (t__law_odd_triples K C E) F__law_odd_triples := s_ret (ev_call1 (((ef_lc (ei_seq (ev_call (ea_cons (ev_op (ev_var) ((ev_cI 0).t) rd_ix) (ea_cons (ev_cI 3) (ea_nil))) (len_cons (len_cons (len_nil))))) (eg_name) (eb_test (ev_op (ev_op (ev_call1 ((ev_call1 (((ef_lc (ei_seq (ev_op (ev_var) ((ev_cI 1).t) rd_ix)) (eg_name) (eb_and (eb_test (ev_op (ev_op (ev_var) ((ev_cI 0).t) rd_ix) ((ev_var).t) rd_in)) (eb_test (ev_op (ev_op (ev_var) ((ev_cI 1).t) rd_ix) ((ev_var).t) rd_in))) (ev_var)).ev).t) rd_len).t) rd_int) ((ev_cI 2).t) rd_mod) ((ev_cI 1).t) rd_eqD)) (ev_var)).ev).t) rd_len)
theorem w__law_odd_triples [TabOf] {P : Program} {w : World} {K : PySem.W.Frag} {mg : PySem.Str → Option Value} {base : Heap} {C fI : Addr} (T : Tx P K mg base C fI) : Wk P w K mg base 2 "_law_odd_triples" (top 46) ["web"] (spP C 1 G__law_odd_triples) := by
  have w__law_some := w__law_some (w := w) T
  refine wk_P (C := C) T.a__law_odd_triples sc__law_odd_triples rfl (by decide) (fun _ _ _ _ _ _ us hl => match us, hl with | [_], _ => rfl) (t__law_odd_triples K C) e__law_odd_triples (fun f cdv hcv A outer s H E hr => ?_)
  exact pss_one (ps_ret (pe_callB call_len_seq (by rfl) T.b_len (by first | rfl | decide +kernel) (pa_cons (pe_lc (own := [("some", 1)]) (g := gName 1) (tt := tTest (tOp (rEqD K) (tOp rModI (tCB rIntI (tCons (tCB (rLenS K) (tCons (tLc (iSeq K (tOp (rIx K) (tVar 0) (tC (.int 1)))) (gName 2) (tAnd (tTest (tOp (rInX K false) (tOp (rIx K) (tVar 2) (tC (.int 0))) (tVar 1))) (tTest (tOp (rInX K false) (tOp (rIx K) (tVar 2) (tC (.int 1))) (tVar 1)))) (tVar 2) [2]) tNil)) tNil)) (tC (.int 2))) (tC (.int 1)))) (te := tVar 1) (wi := iSeq K (tCall (spP C 2 G__law_some) [] E0 (tCons (tOp (rIx K) (tVar 0) (tC (.int 0))) (tCons (tC (.int 3)) (tNil))))) (by rfl) sc__law_odd_triples.nd (pi_seq (pe_w w__law_some hr passL (pa_cons (pe_ix ix_seq (pv 0) (pe_int) (fun _ _ => rfl)) (pa_cons (pe_int) (pa_nil))))) (blkOk_by (by first | rfl | kernel_rfl)) (fun _ _ _ _ _ => pg_name (i := 1) sc__law_odd_triples.nd (by rfl) (Or.inr (by rfl))) (fun _ _ _ _ _ => pts_one (pt_cmpR (op_eqD hr.units) (pe_op op_mod (pe_callTy call_int1 (by rfl) T.b_int (by first | rfl | decide +kernel) (pa_cons (pe_callB call_len_seq (by rfl) T.b_len (by first | rfl | decide +kernel) (pa_cons (pe_lc (own := [("tie", 2)]) (g := gName 2) (tt := tAnd (tTest (tOp (rInX K false) (tOp (rIx K) (tVar 2) (tC (.int 0))) (tVar 1))) (tTest (tOp (rInX K false) (tOp (rIx K) (tVar 2) (tC (.int 1))) (tVar 1)))) (te := tVar 2) (wi := iSeq K (tOp (rIx K) (tVar 0) (tC (.int 1)))) (by rfl) sc__law_odd_triples.nd (pi_seq (pe_ix ix_seq (pv 0) (pe_int) (fun _ _ => rfl))) (blkOk_by (by first | rfl | kernel_rfl)) (fun _ _ _ _ _ => pg_name (i := 2) sc__law_odd_triples.nd (by rfl) (Or.inl (by rfl))) (fun _ _ _ _ _ => pts_one ((pw_and (pt_cmpR (op_inX (Room.u65 hr)) (pe_ix ix_seq (pv 2) (pe_int) (fun _ _ => rfl)) (pv 1) (by rfl)) (pw_and1 (pt_cmpR (op_inX (Room.u65 hr)) (pe_ix ix_seq (pv 2) (pe_int) (fun _ _ => rfl)) (pv 1) (by rfl)))).pt)) (fun _ _ _ _ _ => pv 2)) pa_nil)) pa_nil)) (pe_int)) (pe_int) (nomark _))) (fun _ _ _ _ _ => pv 1)) pa_nil)))
/-! ### is_web -/
abbrev N_is_web : List PySem.Str := ["value", "at", "tie"]
def t_is_web [TabOf] (K : PySem.W.Frag) (C : Addr) (E : XK) : TS := tSeq (tIfS (tOr (tNot (tB (tCB (rIsi K) (tCons (tVar 0) (tCons (tC (.ty "tuple")) tNil))))) (tOr (tTest (tOp (rNeD K) (tCB (rLenS K) (tCons (tVar 0) tNil)) (tC (.int 2)))) (tOr (tNot (tB (tCall (spP C 1 G_is_integer) [] E0 (tCons (tOp (rIx K) (tVar 0) (tC (.int 0))) (tNil))))) (tNot (tB (tCB (rIsi K) (tCons (tOp (rIx K) (tVar 0) (tC (.int 1))) (tCons (tC (.ty "tuple")) tNil)))))))) (tRet (tC (.bl false))) (tNext)) (tSeq (tIfS (tOr (tNot (tTest (tChain rLeI rLeI (tC (.int 1)) (tOp (rIx K) (tVar 0) (tC (.int 0))) (tC (.int 26))))) (tNot (tB (tCB (rAll K) (tCons (tLc (iSeq K (tOp (rIx K) (tVar 0) (tC (.int 1)))) (gName 2) (tYes) (tCall (spP C 2 G_is_tie) [] E0 (tCons (tVar 2) (tCons (tOp (rIx K) (tVar 0) (tC (.int 0))) (tNil)))) [2]) tNil))))) (tRet (tC (.bl false))) (tNext)) (tRet (tCB (rAll K) (tCons (tLc (iRng2 (tCons (tC (.int 1)) (tCons (tCB (rLenS K) (tCons (tOp (rIx K) (tVar 0) (tC (.int 1))) tNil)) (tNil)))) (gName 1) (tYes) (tOp (rLtX K) (tOp (rIx K) (tOp (rIx K) (tVar 0) (tC (.int 1))) (tOp rSubI (tVar 1) (tC (.int 1)))) (tOp (rIx K) (tOp (rIx K) (tVar 0) (tC (.int 1))) (tVar 1))) [1]) tNil))))
def F_is_web : FS := sSeq (sIf (fOr (fNot (fB (fUn (gIsi "tuple") (fVar 0)))) (fOr (fB (fOp gNe (fUn gLen (fVar 0)) (fC (.int 2)))) (fOr (fNot (fB (fCall G_is_integer (fCons (fOp gIx (fVar 0) (fC (.int 0))) (fNil))))) (fNot (fB (fUn (gIsi "tuple") (fOp gIx (fVar 0) (fC (.int 1))))))))) (sRet (fC (.bool false))) (sNext)) (sSeq (sIf (fOr (fNot (fB (fChain gLe gLe (fC (.int 1)) (fOp gIx (fVar 0) (fC (.int 0))) (fC (.int 26))))) (fNot (fB (fUn gAll (fLc (fSeq (fOp gIx (fVar 0) (fC (.int 1)))) (tgN 2) (fYes) (fCall G_is_tie (fCons (fVar 2) (fCons (fOp gIx (fVar 0) (fC (.int 0))) (fNil)))) [2]))))) (sRet (fC (.bool false))) (sNext)) (sRet (fUn gAll (fLc (fRg2 (fCons (fC (.int 1)) (fCons (fUn gLen (fOp gIx (fVar 0) (fC (.int 1)))) (fNil)))) (tgN 1) (fYes) (fOp gLt (fOp gIx (fOp gIx (fVar 0) (fC (.int 1))) (fOp gSubI (fVar 1) (fC (.int 1)))) (fOp gIx (fOp gIx (fVar 0) (fC (.int 1))) (fVar 1))) [1]))))
def G_is_web := runP 3 1 F_is_web
theorem sc_is_web : FnScope N_is_web ["value"] (defScope (top 7)) := ⟨rfl, rfl, rfl, by decide +kernel, rfl, by decide +kernel, by decide +kernel⟩
theorem e_is_web [TabOf] {K : PySem.W.Frag} {C : Addr} (E : XK) : EvS true C E (t_is_web K C E) F_is_web := s_seq (s_if (eb_or (eb_not (eb_val (ev_isi isi_tuple ((ev_var).t)))) (eb_or (eb_test (ev_op (ev_call1 ((ev_var).t) rd_len) ((ev_cI 2).t) rd_neD)) (eb_or (eb_not (eb_val (ev_call (ea_cons (ev_op (ev_var) ((ev_cI 0).t) rd_ix) (ea_nil)) (len_cons (len_nil))))) (eb_not (eb_val (ev_isi isi_tuple ((ev_op (ev_var) ((ev_cI 1).t) rd_ix).t))))))) (s_ret (ev_cB false)) (s_next)) (s_seq (s_if (eb_or (eb_not (eb_test (ev_chain (ev_cI 1) (ev_op (ev_var) ((ev_cI 0).t) rd_ix) (ev_cI 26) rd_le rd_le))) (eb_not (eb_val (ev_call1 (((ef_lc (ei_seq (ev_op (ev_var) ((ev_cI 1).t) rd_ix)) (eg_name) (eb_yes) (ev_call (ea_cons (ev_var) (ea_cons (ev_op (ev_var) ((ev_cI 0).t) rd_ix) (ea_nil))) (len_cons (len_cons (len_nil))))).ev).t) rd_all)))) (s_ret (ev_cB false)) (s_next)) (s_ret (ev_call1 (((ef_lc (ei_rg2 (ea_cons (ev_cI 1) (ea_cons (ev_call1 ((ev_op (ev_var) ((ev_cI 1).t) rd_ix).t) rd_len) (ea_nil)))) (eg_name) (eb_yes) (ev_op (ev_op (ev_op (ev_var) ((ev_cI 1).t) rd_ix) ((ev_op (ev_var) ((ev_cI 1).t) rd_sub).t) rd_ix) ((ev_op (ev_op (ev_var) ((ev_cI 1).t) rd_ix) ((ev_var).t) rd_ix).t) rd_lt)).ev).t) rd_all)))
theorem w_is_web [TabOf] {P : Program} {w : World} {K : PySem.W.Frag} {mg : PySem.Str → Option Value} {base : Heap} {C fI : Addr} (T : Tx P K mg base C fI) : Wk P w K mg base 3 "is_web" (top 7) ["value"] (spP C 1 G_is_web) := by
  have w_is_integer := w_is_integer (w := w) T
  have w_is_tie := w_is_tie (w := w) T
  refine wk_P (C := C) T.a_is_web sc_is_web rfl (by decide) (fun _ _ _ _ _ _ us hl => match us, hl with | [_], _ => rfl) (t_is_web K C) e_is_web (fun f cdv hcv A outer s H E hr => ?_)
  exact pss_cons (ps_if ((pw_or (pt_not (pt_val (pe_callB call_isi (by rfl) T.b_isinstance (by first | rfl | decide +kernel) (pa_cons (pv 0) (pa_cons (pe_bltn (by rfl) T.b_tuple (by first | rfl | decide +kernel) (by rfl)) pa_nil))))) (pw_or (pt_cmpR (op_neD hr.units) (pe_callB call_len_seq (by rfl) T.b_len (by first | rfl | decide +kernel) (pa_cons (pv 0) pa_nil)) (pe_int) (nomark _)) (pw_or (pt_not (pt_val (pe_w w_is_integer hr passL (pa_cons (pe_ix ix_seq (pv 0) (pe_int) (fun _ _ => rfl)) (pa_nil))))) (pw_or1 (pt_not (pt_val (pe_callB call_isi (by rfl) T.b_isinstance (by first | rfl | decide +kernel) (pa_cons (pe_ix ix_seq (pv 0) (pe_int) (fun _ _ => rfl)) (pa_cons (pe_bltn (by rfl) T.b_tuple (by first | rfl | decide +kernel) (by rfl)) pa_nil))))))))).pt) (pss_one (ps_ret (pe_bl))) (pss_nil)) (pss_cons (ps_if ((pw_or (pt_not (pt_chain op_le op_le (pe_int) (pe_ix ix_seq (pv 0) (pe_int) (fun _ _ => rfl)) (pe_globI (by rfl) T.c_MOST_PLACES))) (pw_or1 (pt_not (pt_val (pe_callB (cr_all (by rfl)) (by rfl) T.b_all (by first | rfl | decide +kernel) (pa_cons (pe_lc (own := [("tie", 2)]) (g := gName 2) (tt := tYes) (te := tCall (spP C 2 G_is_tie) [] E0 (tCons (tVar 2) (tCons (tOp (rIx K) (tVar 0) (tC (.int 0))) (tNil)))) (wi := iSeq K (tOp (rIx K) (tVar 0) (tC (.int 1)))) (by rfl) sc_is_web.nd (pi_seq (pe_ix ix_seq (pv 0) (pe_int) (fun _ _ => rfl))) (blkOk_by (by first | rfl | kernel_rfl)) (fun _ _ _ _ _ => pg_name (i := 2) sc_is_web.nd (by rfl) (Or.inl (by rfl))) (fun _ _ _ _ _ => pts_nil) (fun _ _ _ _ _ => pe_w w_is_tie hr passL (pa_cons (pv 2) (pa_cons (pe_ix ix_seq (pv 0) (pe_int) (fun _ _ => rfl)) (pa_nil))))) pa_nil)))))).pt) (pss_one (ps_ret (pe_bl))) (pss_nil)) (pss_one (ps_ret (pe_callB (cr_all (by rfl)) (by rfl) T.b_all (by first | rfl | decide +kernel) (pa_cons (pe_lc (own := [("at", 1)]) (g := gName 1) (tt := tYes) (te := tOp (rLtX K) (tOp (rIx K) (tOp (rIx K) (tVar 0) (tC (.int 1))) (tOp rSubI (tVar 1) (tC (.int 1)))) (tOp (rIx K) (tOp (rIx K) (tVar 0) (tC (.int 1))) (tVar 1))) (wi := iRng2 (tCons (tC (.int 1)) (tCons (tCB (rLenS K) (tCons (tOp (rIx K) (tVar 0) (tC (.int 1))) tNil)) (tNil)))) (by rfl) sc_is_web.nd (pi_range2 (by rfl) T.b_range (pa_cons (pe_int) (pa_cons (pe_callB call_len_seq (by rfl) T.b_len (by first | rfl | decide +kernel) (pa_cons (pe_ix ix_seq (pv 0) (pe_int) (fun _ _ => rfl)) pa_nil)) (pa_nil)))) (blkOk_by (by first | rfl | kernel_rfl)) (fun _ _ _ _ _ => pg_name (i := 1) sc_is_web.nd (by rfl) (Or.inl (by rfl))) (fun _ _ _ _ _ => pts_nil) (fun _ _ _ _ _ => pe_cmpR (op_ltX hr.units0) (pe_ix ix_seq (pe_ix ix_seq (pv 0) (pe_int) (fun _ _ => rfl)) (pe_op op_sub (pv 1) (pe_int)) (fun _ _ => rfl)) (pe_ix ix_seq (pe_ix ix_seq (pv 0) (pe_int) (fun _ _ => rfl)) (pv 1) (fun _ _ => rfl)) (nomark _))) pa_nil)))))
/-! ### ring_web -/
abbrev N_ring_web : List PySem.Str := ["many", "at"]
def t_ring_web [TabOf] (K : PySem.W.Frag) (C : Addr) (E : XK) : TS := tSeq (tDrop (tCall (spP C 4 G_need_integer) [] E (tCons (tVar 0) (tCons (tC (.str "many")) (tCons (tC (.int 3)) (tCons (tC (.int 26)) (tNil))))))) (tRet (tCall (spP C 2 G_web_of) [] E0 (tCons (tVar 0) (tCons (tLc (iRng1 (tCons (tVar 0) tNil)) (gName 1) (tYes) (tTup (tCons (tVar 1) (tCons (tOp rModI (tOp (rAddX K) (tVar 1) (tC (.int 1))) (tVar 0)) (tNil)))) [1]) (tNil)))))
def F_ring_web : FS := sSeq (sCallX G_need_integer (fCons (fVar 0) (fCons (fC (.str "many")) (fCons (fC (.int 3)) (fCons (fC (.int 26)) (fNil)))))) (sRet (fCall G_web_of (fCons (fVar 0) (fCons (fLc (fRg1 (fVar 0)) (tgN 1) (fYes) (fTup (fCons (fVar 1) (fCons (fOp gMod (fOp gAdd (fVar 1) (fC (.int 1))) (fVar 0)) (fNil)))) [1]) (fNil)))))
def G_ring_web := runP 2 1 F_ring_web
theorem sc_ring_web : FnScope N_ring_web ["many"] (defScope (top 20)) := ⟨rfl, rfl, rfl, by decide +kernel, rfl, by decide +kernel, by decide +kernel⟩
theorem e_ring_web [TabOf] {K : PySem.W.Frag} {C : Addr} (E : XK) : EvS true C E (t_ring_web K C E) F_ring_web := s_seq (s_callX (ea_cons (ev_var) (ea_cons (ev_cS "many") (ea_cons (ev_cI 3) (ea_cons (ev_cI 26) (ea_nil))))) (len_cons (len_cons (len_cons (len_cons (len_nil)))))) (s_ret (ev_call (ea_cons (ev_var) (ea_cons ((ef_lc (ei_rg1 (ev_var)) (eg_name) (eb_yes) (ev_tup (ea_cons (ev_var) (ea_cons (ev_op (ev_op (ev_var) ((ev_cI 1).t) rd_add) ((ev_var).t) rd_mod) (ea_nil))) (len_cons (len_cons (len_nil))))).ev) (ea_nil))) (len_cons (len_cons (len_nil)))))
theorem w_ring_web [TabOf] {P : Program} {w : World} {K : PySem.W.Frag} {mg : PySem.Str → Option Value} {base : Heap} {C fI : Addr} (T : Tx P K mg base C fI) : Wk P w K mg base 3 "ring_web" (top 20) ["many"] (spP C 1 G_ring_web) := by
  have w_need_integer := w_need_integer (w := w) T
  have w_web_of := w_web_of (w := w) T
  refine wk_P (C := C) T.a_ring_web sc_ring_web rfl (by decide) (fun _ _ _ _ _ _ us hl => match us, hl with | [_], _ => rfl) (t_ring_web K C) e_ring_web (fun f cdv hcv A outer s H E hr => ?_)
  exact pss_cons (ps_expr (pe_w w_need_integer hr (passes_call (takes_of (by rfl) (by rfl) (by rfl) (by rfl)) (fun _ _ _ _ h => h)) (pa_cons (pv 0) (pa_cons (pe_str) (pa_cons (pe_int) (pa_cons (pe_globI (by rfl) T.c_MOST_PLACES) (pa_nil))))))) (pss_one (ps_ret (pe_w w_web_of hr passL (pa_cons (pv 0) (pa_cons (pe_lc (own := [("at", 1)]) (g := gName 1) (tt := tYes) (te := tTup (tCons (tVar 1) (tCons (tOp rModI (tOp (rAddX K) (tVar 1) (tC (.int 1))) (tVar 0)) (tNil)))) (wi := iRng1 (tCons (tVar 0) tNil)) (by rfl) sc_ring_web.nd (pi_range1 (by rfl) T.b_range (pa_cons (pv 0) pa_nil)) (blkOk_by (by first | rfl | kernel_rfl)) (fun _ _ _ _ _ => pg_name (i := 1) sc_ring_web.nd (by rfl) (Or.inl (by rfl))) (fun _ _ _ _ _ => pts_nil) (fun _ _ _ _ _ => pe_tup (pa_cons (pv 1) (pa_cons (pe_op op_mod (pe_op op_addX (pv 1) (pe_int)) (pv 0)) (pa_nil))))) (pa_nil))))))
/-! ### _law_even -/
abbrev N__law_even : List PySem.Str := ["dice", "most", "many", "steps", "step"]
def t__law_even [TabOf] (K : PySem.W.Frag) (C : Addr) (E : XK) : TS := tSeq (tAsg (tOp (rAddX K) (tC (.int 4)) (tCall (spD 2 G__law_roll) [] E0 (tCons (tVar 0) (tCons (tOp rSubI (tVar 1) (tC (.int 3))) (tNil))))) (gName 2)) (tSeq (tAsg (tLc (iRng2 (tCons (tC (.int 1)) (tCons (tOp (rAddX K) (tOp rDivI (tVar 2) (tC (.int 2))) (tC (.int 1))) (tNil)))) (gName 4) (tTest (tOp (rEqD K) (tCall (spD 2 G__law_roll) [] E0 (tCons (tVar 0) (tCons (tC (.int 3)) (tNil)))) (tC (.int 0)))) (tVar 4) [4]) (gName 3)) (tRet (tCall (spP C 2 G__law_rounds) [] E0 (tCons (tVar 2) (tCons (tIf (tTest (tOp rGtI (tCB (rLenS K) (tCons (tVar 3) tNil)) (tC (.int 0)))) (tVar 3) (tLst (tCons (tC (.int 1)) (tNil)))) (tNil))))))
def F__law_even : FS := sSeq (sAsg (fOp gAdd (fC (.int 4)) (fCallD 0 G__law_roll (fCons (fOp gSubI (fVar 1) (fC (.int 3))) (fNil)))) (tgN 2)) (sSeq (sAsg (fLc (fRg2 (fCons (fC (.int 1)) (fCons (fOp gAdd (fOp gDiv (fVar 2) (fC (.int 2))) (fC (.int 1))) (fNil)))) (tgN 4) (fB (fOp gEq (fCallD 0 G__law_roll (fCons (fC (.int 3)) (fNil))) (fC (.int 0)))) (fVar 4) [4]) (tgN 3)) (sRet (fCall G__law_rounds (fCons (fVar 2) (fCons (fIf (fB (fOp gGt (fUn gLen (fVar 3)) (fC (.int 0)))) (fVar 3) (fLst (fCons (fC (.int 1)) (fNil)))) (fNil))))))
def G__law_even := runD 5 2 F__law_even
theorem sc__law_even : FnScope N__law_even ["dice", "most"] (defScope (top 35)) := ⟨rfl, rfl, rfl, by decide +kernel, rfl, by decide +kernel, by decide +kernel⟩
theorem e__law_even [TabOf] {K : PySem.W.Frag} {C : Addr} (E : XK) : EvS false C E (t__law_even K C E) F__law_even := s_seq (s_asg (ev_op (ev_cI 4) ((ev_callD (ea_cons (ev_op (ev_var) ((ev_cI 3).t) rd_sub) (ea_nil)) (len_cons (len_nil))).t) rd_add) eg_name) (s_seq (s_asg ((ef_lc (ei_rg2 (ea_cons (ev_cI 1) (ea_cons (ev_op (ev_op (ev_var) ((ev_cI 2).t) rd_div) ((ev_cI 1).t) rd_add) (ea_nil)))) (eg_name) (eb_test (ev_op (ev_callD (ea_cons (ev_cI 3) (ea_nil)) (len_cons (len_nil))) ((ev_cI 0).t) rd_eqD)) (ev_var)).ev) eg_name) (s_ret (ev_call (ea_cons (ev_var) (ea_cons (ev_if (eb_test (ev_op (ev_call1 ((ev_var).t) rd_len) ((ev_cI 0).t) rd_gt)) (ev_var) (ev_lst (ea_cons (ev_cI 1) (ea_nil)) (len_cons (len_nil)))) (ea_nil))) (len_cons (len_cons (len_nil))))))
theorem w__law_even [TabOf] {P : Program} {w : World} {K : PySem.W.Frag} {mg : PySem.Str → Option Value} {base : Heap} {C fI : Addr} (T : Tx P K mg base C fI) : Wk P w K mg base 3 "_law_even" (top 35) ["dice", "most"] (spD 2 G__law_even) := by
  have w__law_roll := w__law_roll (w := w) T
  have w__law_rounds := w__law_rounds (w := w) T
  refine wk_D (C := C) T.a__law_even sc__law_even rfl (by decide) (fun _ _ _ _ _ _ us hl => match us, hl with | [_, _], _ => rfl) (t__law_even K C) e__law_even (fun f cdv hcv A outer s H E hr => ?_)
  exact pss_cons (ps_set (i := 2) sc__law_even.nd (by rfl) (Or.inl (by rfl)) (pe_op op_addX (pe_int) (pe_w w__law_roll hr passL (pa_cons (pv 0) (pa_cons (pe_op op_sub (pv 1) (pe_int)) (pa_nil)))))) (pss_cons (ps_setLc (i := 3) (own := [("step", 4)]) (g := gName 4) (tt := tTest (tOp (rEqD K) (tCall (spD 2 G__law_roll) [] E0 (tCons (tVar 0) (tCons (tC (.int 3)) (tNil)))) (tC (.int 0)))) (te := tVar 4) (wi := iRng2 (tCons (tC (.int 1)) (tCons (tOp (rAddX K) (tOp rDivI (tVar 2) (tC (.int 2))) (tC (.int 1))) (tNil)))) (by rfl) sc__law_even.nd (by rfl) (by rfl) (sw_true (by rfl) (by rfl) (by rfl) (by first | rfl | kernel_rfl)) (pi_range2 (by rfl) T.b_range (pa_cons (pe_int) (pa_cons (pe_op op_addX (pe_op op_fdiv (pv 2) (pe_int)) (pe_int)) (pa_nil)))) (blkOk_by (by first | rfl | kernel_rfl)) (fun _ _ _ _ _ => pg_name (i := 4) sc__law_even.nd (by rfl) (Or.inl (by rfl))) (fun _ _ _ _ _ => pts_one (pt_cmpR (op_eqD hr.units) (pe_w w__law_roll hr passL (pa_cons (pv 0) (pa_cons (pe_int) (pa_nil)))) (pe_int) (nomark _))) (fun _ _ _ _ _ => pv 4)) (pss_one (ps_ret (pe_w w__law_rounds hr passL (pa_cons (pv 2) (pa_cons (pe_ifExp (pt_cmpR op_gt (pe_callB call_len_seq (by rfl) T.b_len (by first | rfl | decide +kernel) (pa_cons (pv 3) pa_nil)) (pe_int) (nomark _)) (pv 3) (pe_lst (pa_cons (pe_int) (pa_nil)))) (pa_nil)))))))
/-! ### _law_bad_web -/
abbrev N__law_bad_web : List PySem.Str := ["dice"]
def t__law_bad_web [TabOf] (K : PySem.W.Frag) (C : Addr) (E : XK) : TS := tRet (tCall (spD 2 G__law_pick) [] E0 (tCons (tVar 0) (tCons (tLst (tCons (tC .non) (tCons (tTup (tCons (tC (.int 0)) (tCons (tTup (tNil)) (tNil)))) (tCons (tTup (tCons (tC (.int 27)) (tCons (tTup (tNil)) (tNil)))) (tCons (tTup (tCons (tC (.int 2)) (tCons (tLst (tCons (tTup (tCons (tC (.int 0)) (tCons (tC (.int 1)) (tNil)))) (tNil))) (tNil)))) (tCons (tTup (tCons (tC (.int 2)) (tCons (tTup (tCons (tTup (tCons (tC (.int 1)) (tCons (tC (.int 0)) (tNil)))) (tNil))) (tNil)))) (tCons (tTup (tCons (tC (.int 2)) (tCons (tTup (tCons (tTup (tCons (tC (.int 0)) (tCons (tC (.int 2)) (tNil)))) (tNil))) (tNil)))) (tCons (tTup (tCons (tC (.int 3)) (tCons (tTup (tCons (tTup (tCons (tC (.int 0)) (tCons (tC (.int 2)) (tNil)))) (tCons (tTup (tCons (tC (.int 0)) (tCons (tC (.int 1)) (tNil)))) (tNil)))) (tNil)))) (tCons (tTup (tCons (tC (.int 3)) (tCons (tTup (tCons (tTup (tCons (tC (.int 0)) (tCons (tC (.int 1)) (tNil)))) (tCons (tTup (tCons (tC (.int 0)) (tCons (tC (.int 1)) (tNil)))) (tNil)))) (tNil)))) (tCons (tTup (tCons (tC (.int 2)) (tCons (tTup (tCons (tTup (tCons (tC (.int 0)) (tCons (tC (.int 1)) (tCons (tC (.int 1)) (tNil))))) (tNil))) (tNil)))) (tCons (tTup (tCons (tC (.bl true)) (tCons (tTup (tNil)) (tNil)))) (tCons (tTup (tCons (tC (.int 2)) (tCons (tTup (tCons (tTup (tCons (tC (.bl false)) (tCons (tC (.int 1)) (tNil)))) (tNil))) (tNil)))) (tCons (tTup (tCons (tTup (tCons (tC (.int 0)) (tCons (tC (.int 1)) (tNil)))) (tNil))) (tCons (tC (.int 5)) (tNil))))))))))))))) (tNil))))
def F__law_bad_web : FS := sRet (fCallD 0 G__law_pick (fCons (fLst (fCons (fC .none) (fCons (fTup (fCons (fC (.int 0)) (fCons (fTup (fNil)) (fNil)))) (fCons (fTup (fCons (fC (.int 27)) (fCons (fTup (fNil)) (fNil)))) (fCons (fTup (fCons (fC (.int 2)) (fCons (fLst (fCons (fTup (fCons (fC (.int 0)) (fCons (fC (.int 1)) (fNil)))) (fNil))) (fNil)))) (fCons (fTup (fCons (fC (.int 2)) (fCons (fTup (fCons (fTup (fCons (fC (.int 1)) (fCons (fC (.int 0)) (fNil)))) (fNil))) (fNil)))) (fCons (fTup (fCons (fC (.int 2)) (fCons (fTup (fCons (fTup (fCons (fC (.int 0)) (fCons (fC (.int 2)) (fNil)))) (fNil))) (fNil)))) (fCons (fTup (fCons (fC (.int 3)) (fCons (fTup (fCons (fTup (fCons (fC (.int 0)) (fCons (fC (.int 2)) (fNil)))) (fCons (fTup (fCons (fC (.int 0)) (fCons (fC (.int 1)) (fNil)))) (fNil)))) (fNil)))) (fCons (fTup (fCons (fC (.int 3)) (fCons (fTup (fCons (fTup (fCons (fC (.int 0)) (fCons (fC (.int 1)) (fNil)))) (fCons (fTup (fCons (fC (.int 0)) (fCons (fC (.int 1)) (fNil)))) (fNil)))) (fNil)))) (fCons (fTup (fCons (fC (.int 2)) (fCons (fTup (fCons (fTup (fCons (fC (.int 0)) (fCons (fC (.int 1)) (fCons (fC (.int 1)) (fNil))))) (fNil))) (fNil)))) (fCons (fTup (fCons (fC (.bool true)) (fCons (fTup (fNil)) (fNil)))) (fCons (fTup (fCons (fC (.int 2)) (fCons (fTup (fCons (fTup (fCons (fC (.bool false)) (fCons (fC (.int 1)) (fNil)))) (fNil))) (fNil)))) (fCons (fTup (fCons (fTup (fCons (fC (.int 0)) (fCons (fC (.int 1)) (fNil)))) (fNil))) (fCons (fC (.int 5)) (fNil))))))))))))))) (fNil)))
def G__law_bad_web := runD 1 1 F__law_bad_web
theorem sc__law_bad_web : FnScope N__law_bad_web ["dice"] (defScope (top 38)) := ⟨rfl, rfl, rfl, by decide +kernel, rfl, by decide +kernel, by decide +kernel⟩
theorem e__law_bad_web [TabOf] {K : PySem.W.Frag} {C : Addr} (E : XK) : EvS false C E (t__law_bad_web K C E) F__law_bad_web := s_ret (ev_callD (ea_cons (ev_lst (ea_cons (ev_cN) (ea_cons (ev_tup (ea_cons (ev_cI 0) (ea_cons (ev_tup (ea_nil) (len_nil)) (ea_nil))) (len_cons (len_cons (len_nil)))) (ea_cons (ev_tup (ea_cons (ev_cI 27) (ea_cons (ev_tup (ea_nil) (len_nil)) (ea_nil))) (len_cons (len_cons (len_nil)))) (ea_cons (ev_tup (ea_cons (ev_cI 2) (ea_cons (ev_lst (ea_cons (ev_tup (ea_cons (ev_cI 0) (ea_cons (ev_cI 1) (ea_nil))) (len_cons (len_cons (len_nil)))) (ea_nil)) (len_cons (len_nil))) (ea_nil))) (len_cons (len_cons (len_nil)))) (ea_cons (ev_tup (ea_cons (ev_cI 2) (ea_cons (ev_tup (ea_cons (ev_tup (ea_cons (ev_cI 1) (ea_cons (ev_cI 0) (ea_nil))) (len_cons (len_cons (len_nil)))) (ea_nil)) (len_cons (len_nil))) (ea_nil))) (len_cons (len_cons (len_nil)))) (ea_cons (ev_tup (ea_cons (ev_cI 2) (ea_cons (ev_tup (ea_cons (ev_tup (ea_cons (ev_cI 0) (ea_cons (ev_cI 2) (ea_nil))) (len_cons (len_cons (len_nil)))) (ea_nil)) (len_cons (len_nil))) (ea_nil))) (len_cons (len_cons (len_nil)))) (ea_cons (ev_tup (ea_cons (ev_cI 3) (ea_cons (ev_tup (ea_cons (ev_tup (ea_cons (ev_cI 0) (ea_cons (ev_cI 2) (ea_nil))) (len_cons (len_cons (len_nil)))) (ea_cons (ev_tup (ea_cons (ev_cI 0) (ea_cons (ev_cI 1) (ea_nil))) (len_cons (len_cons (len_nil)))) (ea_nil))) (len_cons (len_cons (len_nil)))) (ea_nil))) (len_cons (len_cons (len_nil)))) (ea_cons (ev_tup (ea_cons (ev_cI 3) (ea_cons (ev_tup (ea_cons (ev_tup (ea_cons (ev_cI 0) (ea_cons (ev_cI 1) (ea_nil))) (len_cons (len_cons (len_nil)))) (ea_cons (ev_tup (ea_cons (ev_cI 0) (ea_cons (ev_cI 1) (ea_nil))) (len_cons (len_cons (len_nil)))) (ea_nil))) (len_cons (len_cons (len_nil)))) (ea_nil))) (len_cons (len_cons (len_nil)))) (ea_cons (ev_tup (ea_cons (ev_cI 2) (ea_cons (ev_tup (ea_cons (ev_tup (ea_cons (ev_cI 0) (ea_cons (ev_cI 1) (ea_cons (ev_cI 1) (ea_nil)))) (len_cons (len_cons (len_cons (len_nil))))) (ea_nil)) (len_cons (len_nil))) (ea_nil))) (len_cons (len_cons (len_nil)))) (ea_cons (ev_tup (ea_cons (ev_cB true) (ea_cons (ev_tup (ea_nil) (len_nil)) (ea_nil))) (len_cons (len_cons (len_nil)))) (ea_cons (ev_tup (ea_cons (ev_cI 2) (ea_cons (ev_tup (ea_cons (ev_tup (ea_cons (ev_cB false) (ea_cons (ev_cI 1) (ea_nil))) (len_cons (len_cons (len_nil)))) (ea_nil)) (len_cons (len_nil))) (ea_nil))) (len_cons (len_cons (len_nil)))) (ea_cons (ev_tup (ea_cons (ev_tup (ea_cons (ev_cI 0) (ea_cons (ev_cI 1) (ea_nil))) (len_cons (len_cons (len_nil)))) (ea_nil)) (len_cons (len_nil))) (ea_cons (ev_cI 5) (ea_nil)))))))))))))) (len_cons (len_cons (len_cons (len_cons (len_cons (len_cons (len_cons (len_cons (len_cons (len_cons (len_cons (len_cons (len_cons (len_nil))))))))))))))) (ea_nil)) (len_cons (len_nil)))
theorem w__law_bad_web [TabOf] {P : Program} {w : World} {K : PySem.W.Frag} {mg : PySem.Str → Option Value} {base : Heap} {C fI : Addr} (T : Tx P K mg base C fI) : Wk P w K mg base 3 "_law_bad_web" (top 38) ["dice"] (spD 1 G__law_bad_web) := by
  have w__law_pick := w__law_pick (w := w) T
  refine wk_D (C := C) T.a__law_bad_web sc__law_bad_web rfl (by decide) (fun _ _ _ _ _ _ us hl => match us, hl with | [_], _ => rfl) (t__law_bad_web K C) e__law_bad_web (fun f cdv hcv A outer s H E hr => ?_)
  exact pss_one (ps_ret (pe_w w__law_pick hr passL (pa_cons (pv 0) (pa_cons (pe_lst (pa_cons (pe_non) (pa_cons (pe_tup (pa_cons (pe_int) (pa_cons (pe_tup (pa_nil)) (pa_nil)))) (pa_cons (pe_tup (pa_cons (pe_int) (pa_cons (pe_tup (pa_nil)) (pa_nil)))) (pa_cons (pe_tup (pa_cons (pe_int) (pa_cons (pe_lst (pa_cons (pe_tup (pa_cons (pe_int) (pa_cons (pe_int) (pa_nil)))) (pa_nil))) (pa_nil)))) (pa_cons (pe_tup (pa_cons (pe_int) (pa_cons (pe_tup (pa_cons (pe_tup (pa_cons (pe_int) (pa_cons (pe_int) (pa_nil)))) (pa_nil))) (pa_nil)))) (pa_cons (pe_tup (pa_cons (pe_int) (pa_cons (pe_tup (pa_cons (pe_tup (pa_cons (pe_int) (pa_cons (pe_int) (pa_nil)))) (pa_nil))) (pa_nil)))) (pa_cons (pe_tup (pa_cons (pe_int) (pa_cons (pe_tup (pa_cons (pe_tup (pa_cons (pe_int) (pa_cons (pe_int) (pa_nil)))) (pa_cons (pe_tup (pa_cons (pe_int) (pa_cons (pe_int) (pa_nil)))) (pa_nil)))) (pa_nil)))) (pa_cons (pe_tup (pa_cons (pe_int) (pa_cons (pe_tup (pa_cons (pe_tup (pa_cons (pe_int) (pa_cons (pe_int) (pa_nil)))) (pa_cons (pe_tup (pa_cons (pe_int) (pa_cons (pe_int) (pa_nil)))) (pa_nil)))) (pa_nil)))) (pa_cons (pe_tup (pa_cons (pe_int) (pa_cons (pe_tup (pa_cons (pe_tup (pa_cons (pe_int) (pa_cons (pe_int) (pa_cons (pe_int) (pa_nil))))) (pa_nil))) (pa_nil)))) (pa_cons (pe_tup (pa_cons (pe_bl) (pa_cons (pe_tup (pa_nil)) (pa_nil)))) (pa_cons (pe_tup (pa_cons (pe_int) (pa_cons (pe_tup (pa_cons (pe_tup (pa_cons (pe_bl) (pa_cons (pe_int) (pa_nil)))) (pa_nil))) (pa_nil)))) (pa_cons (pe_tup (pa_cons (pe_tup (pa_cons (pe_int) (pa_cons (pe_int) (pa_nil)))) (pa_nil))) (pa_cons (pe_int) (pa_nil))))))))))))))) (pa_nil)))))
/-! ### _law_made -/
abbrev N__law_made : List PySem.Str := ["dice", "many", "pairs", "place", "near", "row", "other", "one"]
def t__law_made [TabOf] (K : PySem.W.Frag) (C : Addr) (E : XK) : TS := tSeq (tAsg (tOp (rAddX K) (tC (.int 6)) (tCall (spD 2 G__law_roll) [] E0 (tCons (tVar 0) (tCons (tC (.int 2)) (tNil))))) (gName 1)) (tSeq (tAsg (tCall (spD 2 G__law_pick) [] E0 (tCons (tVar 0) (tCons (tLst (tCons (tLst (tNil)) (tCons (tLst (tCons (tTup (tCons (tC (.int 0)) (tCons (tC (.int 1)) (tNil)))) (tCons (tTup (tCons (tC (.int 2)) (tCons (tC (.int 3)) (tNil)))) (tNil)))) (tCons (tLst (tCons (tTup (tCons (tC (.int 0)) (tCons (tC (.int 1)) (tNil)))) (tCons (tTup (tCons (tC (.int 1)) (tCons (tC (.int 2)) (tNil)))) (tCons (tTup (tCons (tC (.int 2)) (tCons (tC (.int 3)) (tNil)))) (tCons (tTup (tCons (tC (.int 0)) (tCons (tC (.int 3)) (tNil)))) (tNil)))))) (tCons (tLst (tCons (tTup (tCons (tC (.int 0)) (tCons (tC (.int 1)) (tNil)))) (tCons (tTup (tCons (tC (.int 0)) (tCons (tC (.int 2)) (tNil)))) (tCons (tTup (tCons (tC (.int 0)) (tCons (tC (.int 3)) (tNil)))) (tCons (tTup (tCons (tC (.int 1)) (tCons (tC (.int 2)) (tNil)))) (tCons (tTup (tCons (tC (.int 1)) (tCons (tC (.int 3)) (tNil)))) (tCons (tTup (tCons (tC (.int 2)) (tCons (tC (.int 3)) (tNil)))) (tNil)))))))) (tNil)))))) (tNil)))) (gName 2)) (tSeq (tFor (iRng2 (tCons (tC (.int 4)) (tCons (tVar 1) (tNil)))) (gName 3) (tSeq (tAsg (tCall (spD 2 G__law_pick) [] E0 (tCons (tVar 0) (tCons (tLst (tCons (tLst (tNil)) (tCons (tLst (tCons (tC (.int 0)) (tCons (tC (.int 1)) (tNil)))) (tCons (tLst (tCons (tC (.int 0)) (tCons (tC (.int 2)) (tNil)))) (tCons (tLst (tCons (tC (.int 0)) (tCons (tC (.int 3)) (tNil)))) (tCons (tLst (tCons (tC (.int 1)) (tCons (tC (.int 2)) (tNil)))) (tCons (tLst (tCons (tC (.int 1)) (tCons (tC (.int 3)) (tNil)))) (tCons (tLst (tCons (tC (.int 2)) (tCons (tC (.int 3)) (tNil)))) (tCons (tLst (tCons (tC (.int 0)) (tCons (tC (.int 1)) (tCons (tC (.int 2)) (tCons (tC (.int 3)) (tNil)))))) (tNil)))))))))) (tNil)))) (gName 4)) (tAsg (tOp (rAddX K) (tOp (rAddX K) (tVar 2) (tLc (iSeq K (tVar 4)) (gName 7) (tYes) (tTup (tCons (tVar 7) (tCons (tVar 3) (tNil)))) [7])) (tLc (iRng2 (tCons (tC (.int 4)) (tCons (tVar 3) (tNil)))) (gName 6) (tTest (tOp (rEqD K) (tCall (spD 2 G__law_roll) [] E0 (tCons (tVar 0) (tCons (tC (.int 2)) (tNil)))) (tC (.int 0)))) (tTup (tCons (tVar 6) (tCons (tVar 3) (tNil)))) [6])) (gName 2)))) (tSeq (tAsg (tCall (spD 2 G__law_shuffled) [] E0 (tCons (tVar 0) (tCons (tVar 1) (tNil)))) (gName 5)) (tRet (tTup (tCons (tCall (spP C 2 G__law_renamed) [] E0 (tCons (tCall (spP C 2 G__law_web_of) [] E0 (tCons (tVar 1) (tCons (tVar 2) (tNil)))) (tCons (tVar 5) (tNil)))) (tCons (tCB (rTupS K) (tCons (tCB (rSortX K) (tCons (tSl (rSlX K) (tVar 5) tNoPart (tPart (tC (.int 4)))) tNil)) tNil)) (tNil))))))))
def F__law_made : FS := sSeq (sAsg (fOp gAdd (fC (.int 6)) (fCallD 0 G__law_roll (fCons (fC (.int 2)) (fNil)))) (tgN 1)) (sSeq (sAsg (fCallD 0 G__law_pick (fCons (fLst (fCons (fLst (fNil)) (fCons (fLst (fCons (fTup (fCons (fC (.int 0)) (fCons (fC (.int 1)) (fNil)))) (fCons (fTup (fCons (fC (.int 2)) (fCons (fC (.int 3)) (fNil)))) (fNil)))) (fCons (fLst (fCons (fTup (fCons (fC (.int 0)) (fCons (fC (.int 1)) (fNil)))) (fCons (fTup (fCons (fC (.int 1)) (fCons (fC (.int 2)) (fNil)))) (fCons (fTup (fCons (fC (.int 2)) (fCons (fC (.int 3)) (fNil)))) (fCons (fTup (fCons (fC (.int 0)) (fCons (fC (.int 3)) (fNil)))) (fNil)))))) (fCons (fLst (fCons (fTup (fCons (fC (.int 0)) (fCons (fC (.int 1)) (fNil)))) (fCons (fTup (fCons (fC (.int 0)) (fCons (fC (.int 2)) (fNil)))) (fCons (fTup (fCons (fC (.int 0)) (fCons (fC (.int 3)) (fNil)))) (fCons (fTup (fCons (fC (.int 1)) (fCons (fC (.int 2)) (fNil)))) (fCons (fTup (fCons (fC (.int 1)) (fCons (fC (.int 3)) (fNil)))) (fCons (fTup (fCons (fC (.int 2)) (fCons (fC (.int 3)) (fNil)))) (fNil)))))))) (fNil)))))) (fNil))) (tgN 2)) (sSeq (sFor (fRg2 (fCons (fC (.int 4)) (fCons (fVar 1) (fNil)))) (tgN 3) (sSeq (sAsg (fCallD 0 G__law_pick (fCons (fLst (fCons (fLst (fNil)) (fCons (fLst (fCons (fC (.int 0)) (fCons (fC (.int 1)) (fNil)))) (fCons (fLst (fCons (fC (.int 0)) (fCons (fC (.int 2)) (fNil)))) (fCons (fLst (fCons (fC (.int 0)) (fCons (fC (.int 3)) (fNil)))) (fCons (fLst (fCons (fC (.int 1)) (fCons (fC (.int 2)) (fNil)))) (fCons (fLst (fCons (fC (.int 1)) (fCons (fC (.int 3)) (fNil)))) (fCons (fLst (fCons (fC (.int 2)) (fCons (fC (.int 3)) (fNil)))) (fCons (fLst (fCons (fC (.int 0)) (fCons (fC (.int 1)) (fCons (fC (.int 2)) (fCons (fC (.int 3)) (fNil)))))) (fNil)))))))))) (fNil))) (tgN 4)) (sAsg (fOp gAdd (fOp gAdd (fVar 2) (fLc (fSeq (fVar 4)) (tgN 7) (fYes) (fTup (fCons (fVar 7) (fCons (fVar 3) (fNil)))) [7])) (fLc (fRg2 (fCons (fC (.int 4)) (fCons (fVar 3) (fNil)))) (tgN 6) (fB (fOp gEq (fCallD 0 G__law_roll (fCons (fC (.int 2)) (fNil))) (fC (.int 0)))) (fTup (fCons (fVar 6) (fCons (fVar 3) (fNil)))) [6])) (tgN 2)))) (sSeq (sAsg (fCallD 0 G__law_shuffled (fCons (fVar 1) (fNil))) (tgN 5)) (sRet (fTup (fCons (fCall G__law_renamed (fCons (fCall G__law_web_of (fCons (fVar 1) (fCons (fVar 2) (fNil)))) (fCons (fVar 5) (fNil)))) (fCons (fUn gTuple (fUn gSorted (fSl (fVar 5) fNoPart (fPart (fC (.int 4)))))) (fNil))))))))
def G__law_made := runD 8 1 F__law_made
theorem sc__law_made : FnScope N__law_made ["dice"] (defScope (top 45)) := ⟨rfl, rfl, rfl, by decide +kernel, rfl, by decide +kernel, by decide +kernel⟩
theorem e__law_made [TabOf] {K : PySem.W.Frag} {C : Addr} (E : XK) : EvS false C E (t__law_made K C E) F__law_made := s_seq (s_asg (ev_op (ev_cI 6) ((ev_callD (ea_cons (ev_cI 2) (ea_nil)) (len_cons (len_nil))).t) rd_add) eg_name) (s_seq (s_asg (ev_callD (ea_cons (ev_lst (ea_cons (ev_lst (ea_nil) (len_nil)) (ea_cons (ev_lst (ea_cons (ev_tup (ea_cons (ev_cI 0) (ea_cons (ev_cI 1) (ea_nil))) (len_cons (len_cons (len_nil)))) (ea_cons (ev_tup (ea_cons (ev_cI 2) (ea_cons (ev_cI 3) (ea_nil))) (len_cons (len_cons (len_nil)))) (ea_nil))) (len_cons (len_cons (len_nil)))) (ea_cons (ev_lst (ea_cons (ev_tup (ea_cons (ev_cI 0) (ea_cons (ev_cI 1) (ea_nil))) (len_cons (len_cons (len_nil)))) (ea_cons (ev_tup (ea_cons (ev_cI 1) (ea_cons (ev_cI 2) (ea_nil))) (len_cons (len_cons (len_nil)))) (ea_cons (ev_tup (ea_cons (ev_cI 2) (ea_cons (ev_cI 3) (ea_nil))) (len_cons (len_cons (len_nil)))) (ea_cons (ev_tup (ea_cons (ev_cI 0) (ea_cons (ev_cI 3) (ea_nil))) (len_cons (len_cons (len_nil)))) (ea_nil))))) (len_cons (len_cons (len_cons (len_cons (len_nil)))))) (ea_cons (ev_lst (ea_cons (ev_tup (ea_cons (ev_cI 0) (ea_cons (ev_cI 1) (ea_nil))) (len_cons (len_cons (len_nil)))) (ea_cons (ev_tup (ea_cons (ev_cI 0) (ea_cons (ev_cI 2) (ea_nil))) (len_cons (len_cons (len_nil)))) (ea_cons (ev_tup (ea_cons (ev_cI 0) (ea_cons (ev_cI 3) (ea_nil))) (len_cons (len_cons (len_nil)))) (ea_cons (ev_tup (ea_cons (ev_cI 1) (ea_cons (ev_cI 2) (ea_nil))) (len_cons (len_cons (len_nil)))) (ea_cons (ev_tup (ea_cons (ev_cI 1) (ea_cons (ev_cI 3) (ea_nil))) (len_cons (len_cons (len_nil)))) (ea_cons (ev_tup (ea_cons (ev_cI 2) (ea_cons (ev_cI 3) (ea_nil))) (len_cons (len_cons (len_nil)))) (ea_nil))))))) (len_cons (len_cons (len_cons (len_cons (len_cons (len_cons (len_nil)))))))) (ea_nil))))) (len_cons (len_cons (len_cons (len_cons (len_nil)))))) (ea_nil)) (len_cons (len_nil))) eg_name) (s_seq (s_for (ei_rg2 (ea_cons (ev_cI 4) (ea_cons (ev_var) (ea_nil)))) (eg_name) (s_seq (s_asg (ev_callD (ea_cons (ev_lst (ea_cons (ev_lst (ea_nil) (len_nil)) (ea_cons (ev_lst (ea_cons (ev_cI 0) (ea_cons (ev_cI 1) (ea_nil))) (len_cons (len_cons (len_nil)))) (ea_cons (ev_lst (ea_cons (ev_cI 0) (ea_cons (ev_cI 2) (ea_nil))) (len_cons (len_cons (len_nil)))) (ea_cons (ev_lst (ea_cons (ev_cI 0) (ea_cons (ev_cI 3) (ea_nil))) (len_cons (len_cons (len_nil)))) (ea_cons (ev_lst (ea_cons (ev_cI 1) (ea_cons (ev_cI 2) (ea_nil))) (len_cons (len_cons (len_nil)))) (ea_cons (ev_lst (ea_cons (ev_cI 1) (ea_cons (ev_cI 3) (ea_nil))) (len_cons (len_cons (len_nil)))) (ea_cons (ev_lst (ea_cons (ev_cI 2) (ea_cons (ev_cI 3) (ea_nil))) (len_cons (len_cons (len_nil)))) (ea_cons (ev_lst (ea_cons (ev_cI 0) (ea_cons (ev_cI 1) (ea_cons (ev_cI 2) (ea_cons (ev_cI 3) (ea_nil))))) (len_cons (len_cons (len_cons (len_cons (len_nil)))))) (ea_nil))))))))) (len_cons (len_cons (len_cons (len_cons (len_cons (len_cons (len_cons (len_cons (len_nil)))))))))) (ea_nil)) (len_cons (len_nil))) eg_name) (s_asg (ev_op (ev_op (ev_var) (((ef_lc (ei_seq (ev_var)) (eg_name) (eb_yes) (ev_tup (ea_cons (ev_var) (ea_cons (ev_var) (ea_nil))) (len_cons (len_cons (len_nil))))).ev).t) rd_add) (((ef_lc (ei_rg2 (ea_cons (ev_cI 4) (ea_cons (ev_var) (ea_nil)))) (eg_name) (eb_test (ev_op (ev_callD (ea_cons (ev_cI 2) (ea_nil)) (len_cons (len_nil))) ((ev_cI 0).t) rd_eqD)) (ev_tup (ea_cons (ev_var) (ea_cons (ev_var) (ea_nil))) (len_cons (len_cons (len_nil))))).ev).t) rd_add) eg_name))) (s_seq (s_asg (ev_callD (ea_cons (ev_var) (ea_nil)) (len_cons (len_nil))) eg_name) (s_ret (ev_tup (ea_cons (ev_call (ea_cons (ev_call (ea_cons (ev_var) (ea_cons (ev_var) (ea_nil))) (len_cons (len_cons (len_nil)))) (ea_cons (ev_var) (ea_nil))) (len_cons (len_cons (len_nil)))) (ea_cons (ev_call1 ((ev_call1 ((ev_sl (ev_var) eo_none (eo_some (ev_cI 4))).t) rd_sorted).t) rd_tuple) (ea_nil))) (len_cons (len_cons (len_nil))))))))
theorem w__law_made [TabOf] {P : Program} {w : World} {K : PySem.W.Frag} {mg : PySem.Str → Option Value} {base : Heap} {C fI : Addr} (T : Tx P K mg base C fI) : Wk P w K mg base 3 "_law_made" (top 45) ["dice"] (spD 1 G__law_made) := by
  have w__law_roll := w__law_roll (w := w) T
  have w__law_pick := w__law_pick (w := w) T
  have w__law_shuffled := w__law_shuffled (w := w) T
  have w__law_renamed := w__law_renamed (w := w) T
  have w__law_web_of := w__law_web_of (w := w) T
  refine wk_D (C := C) T.a__law_made sc__law_made rfl (by decide) (fun _ _ _ _ _ _ us hl => match us, hl with | [_], _ => rfl) (t__law_made K C) e__law_made (fun f cdv hcv A outer s H E hr => ?_)
  exact pss_cons (ps_set (i := 1) sc__law_made.nd (by rfl) (Or.inl (by rfl)) (pe_op op_addX (pe_int) (pe_w w__law_roll hr passL (pa_cons (pv 0) (pa_cons (pe_int) (pa_nil)))))) (pss_cons (ps_set (i := 2) sc__law_made.nd (by rfl) (Or.inl (by rfl)) (pe_w w__law_pick hr passL (pa_cons (pv 0) (pa_cons (pe_lst (pa_cons (pe_lst (pa_nil)) (pa_cons (pe_lst (pa_cons (pe_tup (pa_cons (pe_int) (pa_cons (pe_int) (pa_nil)))) (pa_cons (pe_tup (pa_cons (pe_int) (pa_cons (pe_int) (pa_nil)))) (pa_nil)))) (pa_cons (pe_lst (pa_cons (pe_tup (pa_cons (pe_int) (pa_cons (pe_int) (pa_nil)))) (pa_cons (pe_tup (pa_cons (pe_int) (pa_cons (pe_int) (pa_nil)))) (pa_cons (pe_tup (pa_cons (pe_int) (pa_cons (pe_int) (pa_nil)))) (pa_cons (pe_tup (pa_cons (pe_int) (pa_cons (pe_int) (pa_nil)))) (pa_nil)))))) (pa_cons (pe_lst (pa_cons (pe_tup (pa_cons (pe_int) (pa_cons (pe_int) (pa_nil)))) (pa_cons (pe_tup (pa_cons (pe_int) (pa_cons (pe_int) (pa_nil)))) (pa_cons (pe_tup (pa_cons (pe_int) (pa_cons (pe_int) (pa_nil)))) (pa_cons (pe_tup (pa_cons (pe_int) (pa_cons (pe_int) (pa_nil)))) (pa_cons (pe_tup (pa_cons (pe_int) (pa_cons (pe_int) (pa_nil)))) (pa_cons (pe_tup (pa_cons (pe_int) (pa_cons (pe_int) (pa_nil)))) (pa_nil)))))))) (pa_nil)))))) (pa_nil))))) (pss_cons (ps_for (passes_of (by rfl)) (by rfl) (pi_range2 (by rfl) T.b_range (pa_cons (pe_int) (pa_cons (pv 1) (pa_nil)))) (pg_name (i := 3) sc__law_made.nd (by rfl) (Or.inr (by rfl))) (pss_cons (ps_set (i := 4) sc__law_made.nd (by rfl) (Or.inl (by rfl)) (pe_w w__law_pick hr passL (pa_cons (pv 0) (pa_cons (pe_lst (pa_cons (pe_lst (pa_nil)) (pa_cons (pe_lst (pa_cons (pe_int) (pa_cons (pe_int) (pa_nil)))) (pa_cons (pe_lst (pa_cons (pe_int) (pa_cons (pe_int) (pa_nil)))) (pa_cons (pe_lst (pa_cons (pe_int) (pa_cons (pe_int) (pa_nil)))) (pa_cons (pe_lst (pa_cons (pe_int) (pa_cons (pe_int) (pa_nil)))) (pa_cons (pe_lst (pa_cons (pe_int) (pa_cons (pe_int) (pa_nil)))) (pa_cons (pe_lst (pa_cons (pe_int) (pa_cons (pe_int) (pa_nil)))) (pa_cons (pe_lst (pa_cons (pe_int) (pa_cons (pe_int) (pa_cons (pe_int) (pa_cons (pe_int) (pa_nil)))))) (pa_nil)))))))))) (pa_nil))))) (pss_one (ps_set (i := 2) sc__law_made.nd (by rfl) (Or.inl (by rfl)) (pe_op op_addX (pe_op op_addX (pv 2) (pe_lc (own := [("one", 7)]) (g := gName 7) (tt := tYes) (te := tTup (tCons (tVar 7) (tCons (tVar 3) (tNil)))) (wi := iSeq K (tVar 4)) (by rfl) sc__law_made.nd (pi_seq (pv 4)) (blkOk_by (by first | rfl | kernel_rfl)) (fun _ _ _ _ _ => pg_name (i := 7) sc__law_made.nd (by rfl) (Or.inl (by rfl))) (fun _ _ _ _ _ => pts_nil) (fun _ _ _ _ _ => pe_tup (pa_cons (pv 7) (pa_cons (pv 3) (pa_nil)))))) (pe_lc (own := [("other", 6)]) (g := gName 6) (tt := tTest (tOp (rEqD K) (tCall (spD 2 G__law_roll) [] E0 (tCons (tVar 0) (tCons (tC (.int 2)) (tNil)))) (tC (.int 0)))) (te := tTup (tCons (tVar 6) (tCons (tVar 3) (tNil)))) (wi := iRng2 (tCons (tC (.int 4)) (tCons (tVar 3) (tNil)))) (by rfl) sc__law_made.nd (pi_range2 (by rfl) T.b_range (pa_cons (pe_int) (pa_cons (pv 3) (pa_nil)))) (blkOk_by (by first | rfl | kernel_rfl)) (fun _ _ _ _ _ => pg_name (i := 6) sc__law_made.nd (by rfl) (Or.inl (by rfl))) (fun _ _ _ _ _ => pts_one (pt_cmpR (op_eqD hr.units) (pe_w w__law_roll hr passL (pa_cons (pv 0) (pa_cons (pe_int) (pa_nil)))) (pe_int) (nomark _))) (fun _ _ _ _ _ => pe_tup (pa_cons (pv 6) (pa_cons (pv 3) (pa_nil)))))))))) (pss_cons (ps_set (i := 5) sc__law_made.nd (by rfl) (Or.inl (by rfl)) (pe_w w__law_shuffled hr passL (pa_cons (pv 0) (pa_cons (pv 1) (pa_nil))))) (pss_one (ps_ret (pe_tup (pa_cons (pe_w w__law_renamed hr passL (pa_cons (pe_w w__law_web_of hr passL (pa_cons (pv 1) (pa_cons (pv 2) (pa_nil)))) (pa_cons (pv 5) (pa_nil)))) (pa_cons (pe_callTy call_tuple_of (by rfl) T.b_tuple (by first | rfl | decide +kernel) (pa_cons (pe_callB (cr_sortX hr.units) (by rfl) T.b_sorted (by first | rfl | decide +kernel) (pa_cons (pe_slice sl_X (pv 5) po_none (po_some (pe_int))) pa_nil)) pa_nil)) (pa_nil)))))))))
/-! ### need_web -/
abbrev N_need_web : List PySem.Str := ["value", "name", "most"]
def t_need_web [TabOf] (K : PySem.W.Frag) (C : Addr) (E : XK) : TS := tIfS (tOr (tNot (tB (tCall (spP C 1 G_is_web) [] E0 (tCons (tVar 0) (tNil))))) (tTest (tOp rGtI (tOp (rIx K) (tVar 0) (tC (.int 0))) (tVar 2)))) (tRaiseBad C (fun cls d _ H => E cls d H) (tCons (tVar 1) tNil)) (tNext)
def F_need_web : FS := sIf (fOr (fNot (fB (fCall G_is_web (fCons (fVar 0) (fNil))))) (fB (fOp gGt (fOp gIx (fVar 0) (fC (.int 0))) (fVar 2)))) (sRaise (fVar 1)) (sNext)
def G_need_web := runP 3 3 F_need_web
theorem sc_need_web : FnScope N_need_web ["value", "name", "most"] (defScope (top 8)) := ⟨rfl, rfl, rfl, by decide +kernel, rfl, by decide +kernel, by decide +kernel⟩
theorem e_need_web [TabOf] {K : PySem.W.Frag} {C : Addr} (E : XK) : EvS true C E (t_need_web K C E) F_need_web := s_if (eb_or (eb_not (eb_val (ev_call (ea_cons (ev_var) (ea_nil)) (len_cons (len_nil))))) (eb_test (ev_op (ev_op (ev_var) ((ev_cI 0).t) rd_ix) ((ev_var).t) rd_gt))) (s_raise (ev_var)) (s_next)
theorem w_need_web [TabOf] {P : Program} {w : World} {K : PySem.W.Frag} {mg : PySem.Str → Option Value} {base : Heap} {C fI : Addr} (T : Tx P K mg base C fI) : Wk P w K mg base 4 "need_web" (top 8) ["value", "name", "most"] (spP C 3 G_need_web) := by
  have w_is_web := w_is_web (w := w) T
  refine wk_P (C := C) T.a_need_web sc_need_web rfl (by decide) (fun _ _ _ _ _ _ us hl => match us, hl with | [_, _, _], _ => rfl) (t_need_web K C) e_need_web (fun f cdv hcv A outer s H E hr => ?_)
  exact pss_one (ps_if ((pw_or (pt_not (pt_val (pe_w w_is_web hr passL (pa_cons (pv 0) (pa_nil))))) (pw_or1 (pt_cmpR op_gt (pe_ix ix_seq (pv 0) (pe_int) (fun _ _ => rfl)) (pv 2) (nomark _)))).pt) (pss_one (ps_raiseBad (by rfl) T.bad hr (by decide) (takes_of (by rfl) (by rfl) (by rfl) (by rfl)) (pa_cons (pv 1) pa_nil))) (pss_nil))
/-! ### _law_some_web -/
abbrev N__law_some_web : List PySem.Str := ["dice", "most"]
def t__law_some_web [TabOf] (K : PySem.W.Frag) (C : Addr) (E : XK) : TS := tRet (tIf (tTest (tOp rGtI (tCall (spD 2 G__law_roll) [] E0 (tCons (tVar 0) (tCons (tC (.int 3)) (tNil)))) (tC (.int 0)))) (tCall (spD 2 G__law_mixed) [] E0 (tCons (tVar 0) (tCons (tVar 1) (tNil)))) (tCall (spD 2 G__law_even) [] E0 (tCons (tVar 0) (tCons (tVar 1) (tNil)))))
def F__law_some_web : FS := sRet (fIf (fB (fOp gGt (fCallD 0 G__law_roll (fCons (fC (.int 3)) (fNil))) (fC (.int 0)))) (fCallD 0 G__law_mixed (fCons (fVar 1) (fNil))) (fCallD 0 G__law_even (fCons (fVar 1) (fNil))))
def G__law_some_web := runD 2 2 F__law_some_web
theorem sc__law_some_web : FnScope N__law_some_web ["dice", "most"] (defScope (top 37)) := ⟨rfl, rfl, rfl, by decide +kernel, rfl, by decide +kernel, by decide +kernel⟩
theorem e__law_some_web [TabOf] {K : PySem.W.Frag} {C : Addr} (E : XK) : EvS false C E (t__law_some_web K C E) F__law_some_web := s_ret (ev_if (eb_test (ev_op (ev_callD (ea_cons (ev_cI 3) (ea_nil)) (len_cons (len_nil))) ((ev_cI 0).t) rd_gt)) (ev_callD (ea_cons (ev_var) (ea_nil)) (len_cons (len_nil))) (ev_callD (ea_cons (ev_var) (ea_nil)) (len_cons (len_nil))))
theorem w__law_some_web [TabOf] {P : Program} {w : World} {K : PySem.W.Frag} {mg : PySem.Str → Option Value} {base : Heap} {C fI : Addr} (T : Tx P K mg base C fI) : Wk P w K mg base 4 "_law_some_web" (top 37) ["dice", "most"] (spD 2 G__law_some_web) := by
  have w__law_roll := w__law_roll (w := w) T
  have w__law_mixed := w__law_mixed (w := w) T
  have w__law_even := w__law_even (w := w) T
  refine wk_D (C := C) T.a__law_some_web sc__law_some_web rfl (by decide) (fun _ _ _ _ _ _ us hl => match us, hl with | [_, _], _ => rfl) (t__law_some_web K C) e__law_some_web (fun f cdv hcv A outer s H E hr => ?_)
  exact pss_one (ps_ret (pe_ifExp (pt_cmpR op_gt (pe_w w__law_roll hr passL (pa_cons (pv 0) (pa_cons (pe_int) (pa_nil)))) (pe_int) (nomark _)) (pe_w w__law_mixed hr passL (pa_cons (pv 0) (pa_cons (pv 1) (pa_nil)))) (pe_w w__law_even hr passL (pa_cons (pv 0) (pa_cons (pv 1) (pa_nil))))))
/-! ### is_switch -/
abbrev N_is_switch : List PySem.Str := ["web", "value", "rows", "own", "inside", "at", "to"]
def t_is_switch [TabOf] (K : PySem.W.Frag) (C : Addr) (E : XK) : TS := tSeq (tDrop (tCall (spP C 3 G_need_web) [] E (tCons (tVar 0) (tCons (tC (.str "web")) (tCons (tC (.int 26)) (tNil)))))) (tSeq (tIfS (tOr (tNot (tB (tCall (spP C 2 G_is_some) [] E0 (tCons (tVar 0) (tCons (tVar 1) (tNil)))))) (tTest (tOp (rEqD K) (tCB (rLenS K) (tCons (tVar 1) tNil)) (tC (.int 0))))) (tRet (tC (.bl false))) (tNext)) (tSeq (tAsg (tCall (spP C 1 G_sides) [] E0 (tCons (tVar 0) (tNil))) (gName 2)) (tSeq (tAsg (tLc (iRng1 (tCons (tOp (rIx K) (tVar 0) (tC (.int 0))) tNil)) (gName 5) (tYes) (tCB (rLenS K) (tCons (tLc (iSeq K (tOp (rIx K) (tVar 2) (tVar 5))) (gName 6) (tTest (tOp (rInX K false) (tVar 6) (tVar 1))) (tVar 6) [6]) tNil)) [5]) (gName 3)) (tSeq (tAsg (tLc (iSeq K (tVar 1)) (gName 5) (tYes) (tOp (rIx K) (tVar 3) (tVar 5)) [5]) (gName 4)) (tSeq (tIfS (tTest (tOp (rNeD K) (tCB (rMinX K) (tCons (tVar 4) tNil)) (tCB (rMaxX K) (tCons (tVar 4) tNil)))) (tRet (tC (.bl false))) (tNext)) (tRet (tCB (rAll K) (tCons (tLc (iRng1 (tCons (tOp (rIx K) (tVar 0) (tC (.int 0))) tNil)) (gName 5) (tYes) (tOrV (tOp (rInX K false) (tVar 5) (tVar 1)) (tOrV (tOp (rInX K false) (tOp (rIx K) (tVar 3) (tVar 5)) (tTup (tCons (tC (.int 0)) (tCons (tCB (rLenS K) (tCons (tVar 1) tNil)) (tNil))))) (tOp (rEqD K) (tOp rMulX (tC (.int 2)) (tOp (rIx K) (tVar 3) (tVar 5))) (tCB (rLenS K) (tCons (tVar 1) tNil))))) [5]) tNil))))))))
def F_is_switch : FS := sSeq (sCallX G_need_web (fCons (fVar 0) (fCons (fC (.str "web")) (fCons (fC (.int 26)) (fNil))))) (sSeq (sIf (fOr (fNot (fB (fCall G_is_some (fCons (fVar 0) (fCons (fVar 1) (fNil)))))) (fB (fOp gEq (fUn gLen (fVar 1)) (fC (.int 0))))) (sRet (fC (.bool false))) (sNext)) (sSeq (sAsg (fCall G_sides (fCons (fVar 0) (fNil))) (tgN 2)) (sSeq (sAsg (fLc (fRg1 (fOp gIx (fVar 0) (fC (.int 0)))) (tgN 5) (fYes) (fUn gLen (fLc (fSeq (fOp gIx (fVar 2) (fVar 5))) (tgN 6) (fB (fOp (gIn false) (fVar 6) (fVar 1))) (fVar 6) [6])) [5]) (tgN 3)) (sSeq (sAsg (fLc (fSeq (fVar 1)) (tgN 5) (fYes) (fOp gIx (fVar 3) (fVar 5)) [5]) (tgN 4)) (sSeq (sIf (fB (fOp gNe (fUn gMin (fVar 4)) (fUn gMax (fVar 4)))) (sRet (fC (.bool false))) (sNext)) (sRet (fUn gAll (fLc (fRg1 (fOp gIx (fVar 0) (fC (.int 0)))) (tgN 5) (fYes) (fOrV (fOp (gIn false) (fVar 5) (fVar 1)) (fOrV (fOp (gIn false) (fOp gIx (fVar 3) (fVar 5)) (fTup (fCons (fC (.int 0)) (fCons (fUn gLen (fVar 1)) (fNil))))) (fOp gEq (fOp gMul (fC (.int 2)) (fOp gIx (fVar 3) (fVar 5))) (fUn gLen (fVar 1))))) [5]))))))))
def G_is_switch := runP 7 2 F_is_switch
theorem sc_is_switch : FnScope N_is_switch ["web", "value"] (defScope (top 12)) := ⟨rfl, rfl, rfl, by decide +kernel, rfl, by decide +kernel, by decide +kernel⟩
theorem e_is_switch [TabOf] {K : PySem.W.Frag} {C : Addr} (E : XK) : EvS true C E (t_is_switch K C E) F_is_switch := s_seq (s_callX (ea_cons (ev_var) (ea_cons (ev_cS "web") (ea_cons (ev_cI 26) (ea_nil)))) (len_cons (len_cons (len_cons (len_nil))))) (s_seq (s_if (eb_or (eb_not (eb_val (ev_call (ea_cons (ev_var) (ea_cons (ev_var) (ea_nil))) (len_cons (len_cons (len_nil)))))) (eb_test (ev_op (ev_call1 ((ev_var).t) rd_len) ((ev_cI 0).t) rd_eqD))) (s_ret (ev_cB false)) (s_next)) (s_seq (s_asg (ev_call (ea_cons (ev_var) (ea_nil)) (len_cons (len_nil))) eg_name) (s_seq (s_asg ((ef_lc (ei_rg1 (ev_op (ev_var) ((ev_cI 0).t) rd_ix)) (eg_name) (eb_yes) (ev_call1 (((ef_lc (ei_seq (ev_op (ev_var) ((ev_var).t) rd_ix)) (eg_name) (eb_test (ev_op (ev_var) ((ev_var).t) rd_in)) (ev_var)).ev).t) rd_len)).ev) eg_name) (s_seq (s_asg ((ef_lc (ei_seq (ev_var)) (eg_name) (eb_yes) (ev_op (ev_var) ((ev_var).t) rd_ix)).ev) eg_name) (s_seq (s_if (eb_test (ev_op (ev_call1 ((ev_var).t) rd_min) ((ev_call1 ((ev_var).t) rd_max).t) rd_neD)) (s_ret (ev_cB false)) (s_next)) (s_ret (ev_call1 (((ef_lc (ei_rg1 (ev_op (ev_var) ((ev_cI 0).t) rd_ix)) (eg_name) (eb_yes) (ev_orV (ev_op (ev_var) ((ev_var).t) rd_in) (ev_orV (ev_op (ev_op (ev_var) ((ev_var).t) rd_ix) ((ev_tup (ea_cons (ev_cI 0) (ea_cons (ev_call1 ((ev_var).t) rd_len) (ea_nil))) (len_cons (len_cons (len_nil)))).t) rd_in) (ev_op (ev_op (ev_cI 2) ((ev_op (ev_var) ((ev_var).t) rd_ix).t) rd_mul) ((ev_call1 ((ev_var).t) rd_len).t) rd_eqD)))).ev).t) rd_all)))))))
theorem w_is_switch [TabOf] {P : Program} {w : World} {K : PySem.W.Frag} {mg : PySem.Str → Option Value} {base : Heap} {C fI : Addr} (T : Tx P K mg base C fI) : Wk P w K mg base 5 "is_switch" (top 12) ["web", "value"] (spP C 2 G_is_switch) := by
  have w_need_web := w_need_web (w := w) T
  have w_is_some := w_is_some (w := w) T
  have w_sides := w_sides (w := w) T
  refine wk_P (C := C) T.a_is_switch sc_is_switch rfl (by decide) (fun _ _ _ _ _ _ us hl => match us, hl with | [_, _], _ => rfl) (t_is_switch K C) e_is_switch (fun f cdv hcv A outer s H E hr => ?_)
  exact pss_cons (ps_expr (pe_w w_need_web hr (passes_call (takes_of (by rfl) (by rfl) (by rfl) (by rfl)) (fun _ _ _ _ h => h)) (pa_cons (pv 0) (pa_cons (pe_str) (pa_cons (pe_globI (by rfl) T.c_MOST_PLACES) (pa_nil)))))) (pss_cons (ps_if ((pw_or (pt_not (pt_val (pe_w w_is_some hr passL (pa_cons (pv 0) (pa_cons (pv 1) (pa_nil)))))) (pw_or1 (pt_cmpR (op_eqD hr.units) (pe_callB call_len_seq (by rfl) T.b_len (by first | rfl | decide +kernel) (pa_cons (pv 1) pa_nil)) (pe_int) (nomark _)))).pt) (pss_one (ps_ret (pe_bl))) (pss_nil)) (pss_cons (ps_set (i := 2) sc_is_switch.nd (by rfl) (Or.inr (by rfl)) (pe_w w_sides hr passL (pa_cons (pv 0) (pa_nil)))) (pss_cons (ps_set (i := 3) sc_is_switch.nd (by rfl) (Or.inr (by rfl)) (pe_lc (own := [("at", 5)]) (g := gName 5) (tt := tYes) (te := tCB (rLenS K) (tCons (tLc (iSeq K (tOp (rIx K) (tVar 2) (tVar 5))) (gName 6) (tTest (tOp (rInX K false) (tVar 6) (tVar 1))) (tVar 6) [6]) tNil)) (wi := iRng1 (tCons (tOp (rIx K) (tVar 0) (tC (.int 0))) tNil)) (by rfl) sc_is_switch.nd (pi_range1 (by rfl) T.b_range (pa_cons (pe_ix ix_seq (pv 0) (pe_int) (fun _ _ => rfl)) pa_nil)) (blkOk_by (by first | rfl | kernel_rfl)) (fun _ _ _ _ _ => pg_name (i := 5) sc_is_switch.nd (by rfl) (Or.inl (by rfl))) (fun _ _ _ _ _ => pts_nil) (fun _ _ _ _ _ => pe_callB call_len_seq (by rfl) T.b_len (by first | rfl | decide +kernel) (pa_cons (pe_lc (own := [("to", 6)]) (g := gName 6) (tt := tTest (tOp (rInX K false) (tVar 6) (tVar 1))) (te := tVar 6) (wi := iSeq K (tOp (rIx K) (tVar 2) (tVar 5))) (by rfl) sc_is_switch.nd (pi_seq (pe_ix ix_seq (pv 2) (pv 5) (fun _ _ => rfl))) (blkOk_by (by first | rfl | kernel_rfl)) (fun _ _ _ _ _ => pg_name (i := 6) sc_is_switch.nd (by rfl) (Or.inl (by rfl))) (fun _ _ _ _ _ => pts_one (pt_cmpR (op_inX (Room.u65 hr)) (pv 6) (pv 1) (by rfl))) (fun _ _ _ _ _ => pv 6)) pa_nil)))) (pss_cons (ps_setLc (i := 4) (own := [("at", 5)]) (g := gName 5) (tt := tYes) (te := tOp (rIx K) (tVar 3) (tVar 5)) (wi := iSeq K (tVar 1)) (by rfl) sc_is_switch.nd (by rfl) (by rfl) (sw_true (by rfl) (by rfl) (by rfl) (by first | rfl | kernel_rfl)) (pi_seq (pv 1)) (blkOk_by (by first | rfl | kernel_rfl)) (fun _ _ _ _ _ => pg_name (i := 5) sc_is_switch.nd (by rfl) (Or.inl (by rfl))) (fun _ _ _ _ _ => pts_nil) (fun _ _ _ _ _ => pe_ix ix_seq (pv 3) (pv 5) (fun _ _ => rfl))) (pss_cons (ps_if (pt_cmpR (op_neD hr.units) (pe_callB (cr_minX (by rfl) hr.units) (by rfl) T.b_min (by first | rfl | decide +kernel) (pa_cons (pv 4) pa_nil)) (pe_callB (cr_maxX (by rfl) hr.units) (by rfl) T.b_max (by first | rfl | decide +kernel) (pa_cons (pv 4) pa_nil)) (nomark _)) (pss_one (ps_ret (pe_bl))) (pss_nil)) (pss_one (ps_ret (pe_callB (cr_all (by rfl)) (by rfl) T.b_all (by first | rfl | decide +kernel) (pa_cons (pe_lc (own := [("at", 5)]) (g := gName 5) (tt := tYes) (te := tOrV (tOp (rInX K false) (tVar 5) (tVar 1)) (tOrV (tOp (rInX K false) (tOp (rIx K) (tVar 3) (tVar 5)) (tTup (tCons (tC (.int 0)) (tCons (tCB (rLenS K) (tCons (tVar 1) tNil)) (tNil))))) (tOp (rEqD K) (tOp rMulX (tC (.int 2)) (tOp (rIx K) (tVar 3) (tVar 5))) (tCB (rLenS K) (tCons (tVar 1) tNil))))) (wi := iRng1 (tCons (tOp (rIx K) (tVar 0) (tC (.int 0))) tNil)) (by rfl) sc_is_switch.nd (pi_range1 (by rfl) T.b_range (pa_cons (pe_ix ix_seq (pv 0) (pe_int) (fun _ _ => rfl)) pa_nil)) (blkOk_by (by first | rfl | kernel_rfl)) (fun _ _ _ _ _ => pg_name (i := 5) sc_is_switch.nd (by rfl) (Or.inl (by rfl))) (fun _ _ _ _ _ => pts_nil) (fun _ _ _ _ _ => pe_or (pe_cmpR (op_inX (Room.u65 hr)) (pv 5) (pv 1) (by rfl)) (pe_or (pe_cmpR (op_inX (Room.u65 hr)) (pe_ix ix_seq (pv 3) (pv 5) (fun _ _ => rfl)) (pe_tup (pa_cons (pe_int) (pa_cons (pe_callB call_len_seq (by rfl) T.b_len (by first | rfl | decide +kernel) (pa_cons (pv 1) pa_nil)) (pa_nil)))) (by rfl)) (pe_one (pe_cmpR (op_eqD hr.units) (pe_op op_mulX (pe_int) (pe_ix ix_seq (pv 3) (pv 5) (fun _ _ => rfl))) (pe_callB call_len_seq (by rfl) T.b_len (by first | rfl | decide +kernel) (pa_cons (pv 1) pa_nil)) (nomark _)))))) pa_nil)))))))))
/-! ### turned_web -/
abbrev N_turned_web : List PySem.Str := ["web", "places", "rows", "ties", "one", "other"]
def t_turned_web [TabOf] (K : PySem.W.Frag) (C : Addr) (E : XK) : TS := tSeq (tDrop (tCall (spP C 3 G_need_web) [] E (tCons (tVar 0) (tCons (tC (.str "web")) (tCons (tC (.int 26)) (tNil)))))) (tSeq (tIfS (tNot (tB (tCall (spP C 2 G_is_some) [] E0 (tCons (tVar 0) (tCons (tVar 1) (tNil)))))) (tRaiseBad C (fun cls d _ H => E cls d H) (tCons (tC (.str "places")) tNil)) (tNext)) (tSeq (tAsg (tCall (spP C 1 G_sides) [] E0 (tCons (tVar 0) (tNil))) (gName 2)) (tSeq (tAsg (tLst (tNil)) (gName 3)) (tSeq (tFor (iRng1 (tCons (tOp (rIx K) (tVar 0) (tC (.int 0))) tNil)) (gName 4) (tFor (iRng2 (tCons (tOp (rAddX K) (tVar 4) (tC (.int 1))) (tCons (tOp (rIx K) (tVar 0) (tC (.int 0))) (tNil)))) (gName 5) (tIfS (tTest (tOp (rNeD K) (tOp (rInX K false) (tVar 5) (tOp (rIx K) (tVar 2) (tVar 4))) (tOp (rNeD K) (tOp (rInX K false) (tVar 4) (tVar 1)) (tOp (rInX K false) (tVar 5) (tVar 1))))) (tDrop (tBM K "list" rAppend (tVar 3) (tCons (tTup (tCons (tVar 4) (tCons (tVar 5) (tNil)))) tNil))) (tNext)))) (tRet (tTup (tCons (tOp (rIx K) (tVar 0) (tC (.int 0))) (tCons (tCB (rTupS K) (tCons (tVar 3) tNil)) (tNil)))))))))
def F_turned_web : FS := sSeq (sCallX G_need_web (fCons (fVar 0) (fCons (fC (.str "web")) (fCons (fC (.int 26)) (fNil))))) (sSeq (sIf (fNot (fB (fCall G_is_some (fCons (fVar 0) (fCons (fVar 1) (fNil)))))) (sRaise (fC (.str "places"))) (sNext)) (sSeq (sAsg (fCall G_sides (fCons (fVar 0) (fNil))) (tgN 2)) (sSeq (sAsgMu 3 (fLst (fNil))) (sSeq (sFor (fRg1 (fOp gIx (fVar 0) (fC (.int 0)))) (tgN 4) (sFor (fRg2 (fCons (fOp gAdd (fVar 4) (fC (.int 1))) (fCons (fOp gIx (fVar 0) (fC (.int 0))) (fNil)))) (tgN 5) (sIf (fB (fOp gNe (fOp (gIn false) (fVar 5) (fOp gIx (fVar 2) (fVar 4))) (fOp gNe (fOp (gIn false) (fVar 4) (fVar 1)) (fOp (gIn false) (fVar 5) (fVar 1))))) (sDrop (fApp 3 (fTup (fCons (fVar 4) (fCons (fVar 5) (fNil)))))) (sNext)))) (sRet (fTup (fCons (fOp gIx (fVar 0) (fC (.int 0))) (fCons (fUn gTuple (fMu 3)) (fNil)))))))))
def G_turned_web := runP 6 2 F_turned_web
theorem sc_turned_web : FnScope N_turned_web ["web", "places"] (defScope (top 15)) := ⟨rfl, rfl, rfl, by decide +kernel, rfl, by decide +kernel, by decide +kernel⟩
theorem e_turned_web [TabOf] {K : PySem.W.Frag} {C : Addr} (E : XK) : EvS true C E (t_turned_web K C E) F_turned_web := s_seq (s_callX (ea_cons (ev_var) (ea_cons (ev_cS "web") (ea_cons (ev_cI 26) (ea_nil)))) (len_cons (len_cons (len_cons (len_nil))))) (s_seq (s_if (eb_not (eb_val (ev_call (ea_cons (ev_var) (ea_cons (ev_var) (ea_nil))) (len_cons (len_cons (len_nil)))))) (s_raise (ev_cS "places")) (s_next)) (s_seq (s_asg (ev_call (ea_cons (ev_var) (ea_nil)) (len_cons (len_nil))) eg_name) (s_seq (s_asgMu (ef_lst (ea_nil) (len_nil))) (s_seq (s_for (ei_rg1 (ev_op (ev_var) ((ev_cI 0).t) rd_ix)) (eg_name) (s_for (ei_rg2 (ea_cons (ev_op (ev_var) ((ev_cI 1).t) rd_add) (ea_cons (ev_op (ev_var) ((ev_cI 0).t) rd_ix) (ea_nil)))) (eg_name) (s_if (eb_test (ev_op (ev_op (ev_var) ((ev_op (ev_var) ((ev_var).t) rd_ix).t) rd_in) ((ev_op (ev_op (ev_var) ((ev_var).t) rd_in) ((ev_op (ev_var) ((ev_var).t) rd_in).t) rd_neD).t) rd_neD)) (s_drop (ev_app (ev_tup (ea_cons (ev_var) (ea_cons (ev_var) (ea_nil))) (len_cons (len_cons (len_nil)))))) (s_next)))) (s_ret (ev_tup (ea_cons (ev_op (ev_var) ((ev_cI 0).t) rd_ix) (ea_cons (ev_call1 (ev_mu) rd_tuple) (ea_nil))) (len_cons (len_cons (len_nil)))))))))
theorem w_turned_web [TabOf] {P : Program} {w : World} {K : PySem.W.Frag} {mg : PySem.Str → Option Value} {base : Heap} {C fI : Addr} (T : Tx P K mg base C fI) : Wk P w K mg base 5 "turned_web" (top 15) ["web", "places"] (spP C 2 G_turned_web) := by
  have w_need_web := w_need_web (w := w) T
  have w_is_some := w_is_some (w := w) T
  have w_sides := w_sides (w := w) T
  refine wk_P (C := C) T.a_turned_web sc_turned_web rfl (by decide) (fun _ _ _ _ _ _ us hl => match us, hl with | [_, _], _ => rfl) (t_turned_web K C) e_turned_web (fun f cdv hcv A outer s H E hr => ?_)
  exact pss_cons (ps_expr (pe_w w_need_web hr (passes_call (takes_of (by rfl) (by rfl) (by rfl) (by rfl)) (fun _ _ _ _ h => h)) (pa_cons (pv 0) (pa_cons (pe_str) (pa_cons (pe_globI (by rfl) T.c_MOST_PLACES) (pa_nil)))))) (pss_cons (ps_if (pt_not (pt_val (pe_w w_is_some hr passL (pa_cons (pv 0) (pa_cons (pv 1) (pa_nil)))))) (pss_one (ps_raiseBad (by rfl) T.bad hr (by decide) (takes_of (by rfl) (by rfl) (by rfl) (by rfl)) (pa_cons (pe_str) pa_nil))) (pss_nil)) (pss_cons (ps_set (i := 2) sc_turned_web.nd (by rfl) (Or.inl (by rfl)) (pe_w w_sides hr passL (pa_cons (pv 0) (pa_nil)))) (pss_cons (ps_set (i := 3) sc_turned_web.nd (by rfl) (Or.inl (by rfl)) (pe_lst (pa_nil))) (pss_cons (ps_for (passes_of (by rfl)) (by rfl) (pi_range1 (by rfl) T.b_range (pa_cons (pe_ix ix_seq (pv 0) (pe_int) (fun _ _ => rfl)) pa_nil)) (pg_name (i := 4) sc_turned_web.nd (by rfl) (Or.inl (by rfl))) (pss_one (ps_for (passes_of (by rfl)) (by rfl) (pi_range2 (by rfl) T.b_range (pa_cons (pe_op op_addX (pv 4) (pe_int)) (pa_cons (pe_ix ix_seq (pv 0) (pe_int) (fun _ _ => rfl)) (pa_nil)))) (pg_name (i := 5) sc_turned_web.nd (by rfl) (Or.inl (by rfl))) (pss_one (ps_if (pt_cmpR (op_neD hr.units) (pe_cmpR (op_inX (Room.u65 hr)) (pv 5) (pe_ix ix_seq (pv 2) (pv 4) (fun _ _ => rfl)) (by rfl)) (pe_cmpR (op_neD hr.units) (pe_cmpR (op_inX (Room.u65 hr)) (pv 4) (pv 1) (by rfl)) (pe_cmpR (op_inX (Room.u65 hr)) (pv 5) (pv 1) (by rfl)) (nomark _)) (nomark _)) (pss_one (ps_expr (pe_bm PySem.F.plainAttrs_list PySem.F.slot_list_append PySem.F.type_list_append mt_append (pv 3) (pa_cons (pe_tup (pa_cons (pv 4) (pa_cons (pv 5) (pa_nil)))) pa_nil)))) (pss_nil)))))) (pss_one (ps_ret (pe_tup (pa_cons (pe_ix ix_seq (pv 0) (pe_int) (fun _ _ => rfl)) (pa_cons (pe_callTy call_tuple_of (by rfl) T.b_tuple (by first | rfl | decide +kernel) (pa_cons (pv 3) pa_nil)) (pa_nil))))))))))
/-! ### odd_triples -/
abbrev N_odd_triples : List PySem.Str := ["web", "rows", "found", "one", "other", "last", "many"]
def t_odd_triples [TabOf] (K : PySem.W.Frag) (C : Addr) (E : XK) : TS := tSeq (tDrop (tCall (spP C 3 G_need_web) [] E (tCons (tVar 0) (tCons (tC (.str "web")) (tCons (tC (.int 26)) (tNil)))))) (tSeq (tAsg (tCall (spP C 1 G_sides) [] E0 (tCons (tVar 0) (tNil))) (gName 1)) (tSeq (tAsg (tC (.int 0)) (gName 2)) (tSeq (tFor (iRng1 (tCons (tOp (rIx K) (tVar 0) (tC (.int 0))) tNil)) (gName 3) (tFor (iRng2 (tCons (tOp (rAddX K) (tVar 3) (tC (.int 1))) (tCons (tOp (rIx K) (tVar 0) (tC (.int 0))) (tNil)))) (gName 4) (tFor (iRng2 (tCons (tOp (rAddX K) (tVar 4) (tC (.int 1))) (tCons (tOp (rIx K) (tVar 0) (tC (.int 0))) (tNil)))) (gName 5) (tSeq (tAsg (tOp (rAddX K) (tIf (tTest (tOp (rInX K false) (tVar 4) (tOp (rIx K) (tVar 1) (tVar 3)))) (tC (.int 1)) (tC (.int 0))) (tIf (tTest (tOp (rInX K false) (tVar 5) (tOp (rIx K) (tVar 1) (tVar 3)))) (tC (.int 1)) (tC (.int 0)))) (gName 6)) (tAug 2 (tOp rModI (tOp (rAddX K) (tVar 6) (tIf (tTest (tOp (rInX K false) (tVar 5) (tOp (rIx K) (tVar 1) (tVar 4)))) (tC (.int 1)) (tC (.int 0)))) (tC (.int 2))) rAddI))))) (tRet (tVar 2)))))
def F_odd_triples : FS := sSeq (sCallX G_need_web (fCons (fVar 0) (fCons (fC (.str "web")) (fCons (fC (.int 26)) (fNil))))) (sSeq (sAsg (fCall G_sides (fCons (fVar 0) (fNil))) (tgN 1)) (sSeq (sAsg (fC (.int 0)) (tgN 2)) (sSeq (sFor (fRg1 (fOp gIx (fVar 0) (fC (.int 0)))) (tgN 3) (sFor (fRg2 (fCons (fOp gAdd (fVar 3) (fC (.int 1))) (fCons (fOp gIx (fVar 0) (fC (.int 0))) (fNil)))) (tgN 4) (sFor (fRg2 (fCons (fOp gAdd (fVar 4) (fC (.int 1))) (fCons (fOp gIx (fVar 0) (fC (.int 0))) (fNil)))) (tgN 5) (sSeq (sAsg (fOp gAdd (fIf (fB (fOp (gIn false) (fVar 4) (fOp gIx (fVar 1) (fVar 3)))) (fC (.int 1)) (fC (.int 0))) (fIf (fB (fOp (gIn false) (fVar 5) (fOp gIx (fVar 1) (fVar 3)))) (fC (.int 1)) (fC (.int 0)))) (tgN 6)) (sAug 2 gAddI (fOp gMod (fOp gAdd (fVar 6) (fIf (fB (fOp (gIn false) (fVar 5) (fOp gIx (fVar 1) (fVar 4)))) (fC (.int 1)) (fC (.int 0)))) (fC (.int 2)))))))) (sRet (fVar 2)))))
def G_odd_triples := runP 7 1 F_odd_triples
theorem sc_odd_triples : FnScope N_odd_triples ["web"] (defScope (top 16)) := ⟨rfl, rfl, rfl, by decide +kernel, rfl, by decide +kernel, by decide +kernel⟩
theorem e_odd_triples [TabOf] {K : PySem.W.Frag} {C : Addr} (E : XK) : EvS true C E (t_odd_triples K C E) F_odd_triples := s_seq (s_callX (ea_cons (ev_var) (ea_cons (ev_cS "web") (ea_cons (ev_cI 26) (ea_nil)))) (len_cons (len_cons (len_cons (len_nil))))) (s_seq (s_asg (ev_call (ea_cons (ev_var) (ea_nil)) (len_cons (len_nil))) eg_name) (s_seq (s_asg (ev_cI 0) eg_name) (s_seq (s_for (ei_rg1 (ev_op (ev_var) ((ev_cI 0).t) rd_ix)) (eg_name) (s_for (ei_rg2 (ea_cons (ev_op (ev_var) ((ev_cI 1).t) rd_add) (ea_cons (ev_op (ev_var) ((ev_cI 0).t) rd_ix) (ea_nil)))) (eg_name) (s_for (ei_rg2 (ea_cons (ev_op (ev_var) ((ev_cI 1).t) rd_add) (ea_cons (ev_op (ev_var) ((ev_cI 0).t) rd_ix) (ea_nil)))) (eg_name) (s_seq (s_asg (ev_op (ev_if (eb_test (ev_op (ev_var) ((ev_op (ev_var) ((ev_var).t) rd_ix).t) rd_in)) (ev_cI 1) (ev_cI 0)) ((ev_if (eb_test (ev_op (ev_var) ((ev_op (ev_var) ((ev_var).t) rd_ix).t) rd_in)) (ev_cI 1) (ev_cI 0)).t) rd_add) eg_name) (s_aug (ev_op (ev_op (ev_var) ((ev_if (eb_test (ev_op (ev_var) ((ev_op (ev_var) ((ev_var).t) rd_ix).t) rd_in)) (ev_cI 1) (ev_cI 0)).t) rd_add) ((ev_cI 2).t) rd_mod) rd_addI))))) (s_ret (ev_var)))))
theorem w_odd_triples [TabOf] {P : Program} {w : World} {K : PySem.W.Frag} {mg : PySem.Str → Option Value} {base : Heap} {C fI : Addr} (T : Tx P K mg base C fI) : Wk P w K mg base 5 "odd_triples" (top 16) ["web"] (spP C 1 G_odd_triples) := by
  have w_need_web := w_need_web (w := w) T
  have w_sides := w_sides (w := w) T
  refine wk_P (C := C) T.a_odd_triples sc_odd_triples rfl (by decide) (fun _ _ _ _ _ _ us hl => match us, hl with | [_], _ => rfl) (t_odd_triples K C) e_odd_triples (fun f cdv hcv A outer s H E hr => ?_)
  exact pss_cons (ps_expr (pe_w w_need_web hr (passes_call (takes_of (by rfl) (by rfl) (by rfl) (by rfl)) (fun _ _ _ _ h => h)) (pa_cons (pv 0) (pa_cons (pe_str) (pa_cons (pe_globI (by rfl) T.c_MOST_PLACES) (pa_nil)))))) (pss_cons (ps_set (i := 1) sc_odd_triples.nd (by rfl) (Or.inl (by rfl)) (pe_w w_sides hr passL (pa_cons (pv 0) (pa_nil)))) (pss_cons (ps_set (i := 2) sc_odd_triples.nd (by rfl) (Or.inl (by rfl)) (pe_int)) (pss_cons (ps_for (passes_of (by rfl)) (by rfl) (pi_range1 (by rfl) T.b_range (pa_cons (pe_ix ix_seq (pv 0) (pe_int) (fun _ _ => rfl)) pa_nil)) (pg_name (i := 3) sc_odd_triples.nd (by rfl) (Or.inl (by rfl))) (pss_one (ps_for (passes_of (by rfl)) (by rfl) (pi_range2 (by rfl) T.b_range (pa_cons (pe_op op_addX (pv 3) (pe_int)) (pa_cons (pe_ix ix_seq (pv 0) (pe_int) (fun _ _ => rfl)) (pa_nil)))) (pg_name (i := 4) sc_odd_triples.nd (by rfl) (Or.inl (by rfl))) (pss_one (ps_for (passes_of (by rfl)) (by rfl) (pi_range2 (by rfl) T.b_range (pa_cons (pe_op op_addX (pv 4) (pe_int)) (pa_cons (pe_ix ix_seq (pv 0) (pe_int) (fun _ _ => rfl)) (pa_nil)))) (pg_name (i := 5) sc_odd_triples.nd (by rfl) (Or.inl (by rfl))) (pss_cons (ps_set (i := 6) sc_odd_triples.nd (by rfl) (Or.inl (by rfl)) (pe_op op_addX (pe_ifExp (pt_cmpR (op_inX (Room.u65 hr)) (pv 4) (pe_ix ix_seq (pv 1) (pv 3) (fun _ _ => rfl)) (by rfl)) (pe_int) (pe_int)) (pe_ifExp (pt_cmpR (op_inX (Room.u65 hr)) (pv 5) (pe_ix ix_seq (pv 1) (pv 3) (fun _ _ => rfl)) (by rfl)) (pe_int) (pe_int)))) (pss_one (ps_aug (i := 2) sc_odd_triples.nd (by rfl) (Or.inl (by rfl)) (pe_op op_mod (pe_op op_addX (pv 6) (pe_ifExp (pt_cmpR (op_inX (Room.u65 hr)) (pv 5) (pe_ix ix_seq (pv 1) (pv 4) (fun _ _ => rfl)) (by rfl)) (pe_int) (pe_int))) (pe_int)) iop_add)))))))) (pss_one (ps_ret (pv 2))))))
/-! ### closed_walks -/
abbrev N_closed_walks : List PySem.Str := ["web", "many", "own", "found", "turn", "place", "other"]
def t_closed_walks [TabOf] (K : PySem.W.Frag) (C : Addr) (E : XK) : TS := tSeq (tDrop (tCall (spP C 3 G_need_web) [] E (tCons (tVar 0) (tCons (tC (.str "web")) (tCons (tC (.int 26)) (tNil)))))) (tSeq (tDrop (tCall (spP C 4 G_need_integer) [] E (tCons (tVar 1) (tCons (tC (.str "many")) (tCons (tC (.int 0)) (tCons (tC (.int 12)) (tNil))))))) (tSeq (tAsg (tCall (spP C 1 G_table) [] E0 (tCons (tVar 0) (tNil))) (gName 2)) (tSeq (tAsg (tLc (iRng1 (tCons (tOp (rIx K) (tVar 0) (tC (.int 0))) tNil)) (gName 5) (tYes) (tLc (iRng1 (tCons (tOp (rIx K) (tVar 0) (tC (.int 0))) tNil)) (gName 6) (tYes) (tIf (tTest (tOp (rEqD K) (tVar 5) (tVar 6))) (tC (.int 1)) (tC (.int 0))) [6]) [5]) (gName 3)) (tSeq (tFor (iRng1 (tCons (tVar 1) tNil)) (gName 4) (tAsg (tCall (spP C 2 G_times) [] E0 (tCons (tVar 3) (tCons (tVar 2) (tNil)))) (gName 3))) (tRet (tCall (spP C 1 G_trace) [] E0 (tCons (tVar 3) (tNil))))))))
def F_closed_walks : FS := sSeq (sCallX G_need_web (fCons (fVar 0) (fCons (fC (.str "web")) (fCons (fC (.int 26)) (fNil))))) (sSeq (sCallX G_need_integer (fCons (fVar 1) (fCons (fC (.str "many")) (fCons (fC (.int 0)) (fCons (fC (.int 12)) (fNil)))))) (sSeq (sAsg (fCall G_table (fCons (fVar 0) (fNil))) (tgN 2)) (sSeq (sAsg (fLc (fRg1 (fOp gIx (fVar 0) (fC (.int 0)))) (tgN 5) (fYes) (fLc (fRg1 (fOp gIx (fVar 0) (fC (.int 0)))) (tgN 6) (fYes) (fIf (fB (fOp gEq (fVar 5) (fVar 6))) (fC (.int 1)) (fC (.int 0))) [6]) [5]) (tgN 3)) (sSeq (sFor (fRg1 (fVar 1)) (tgN 4) (sAsg (fCall G_times (fCons (fVar 3) (fCons (fVar 2) (fNil)))) (tgN 3))) (sRet (fCall G_trace (fCons (fVar 3) (fNil))))))))
def G_closed_walks := runP 7 2 F_closed_walks
theorem sc_closed_walks : FnScope N_closed_walks ["web", "many"] (defScope (top 26)) := ⟨rfl, rfl, rfl, by decide +kernel, rfl, by decide +kernel, by decide +kernel⟩
theorem e_closed_walks [TabOf] {K : PySem.W.Frag} {C : Addr} (E : XK) : EvS true C E (t_closed_walks K C E) F_closed_walks := s_seq (s_callX (ea_cons (ev_var) (ea_cons (ev_cS "web") (ea_cons (ev_cI 26) (ea_nil)))) (len_cons (len_cons (len_cons (len_nil))))) (s_seq (s_callX (ea_cons (ev_var) (ea_cons (ev_cS "many") (ea_cons (ev_cI 0) (ea_cons (ev_cI 12) (ea_nil))))) (len_cons (len_cons (len_cons (len_cons (len_nil)))))) (s_seq (s_asg (ev_call (ea_cons (ev_var) (ea_nil)) (len_cons (len_nil))) eg_name) (s_seq (s_asg ((ef_lc (ei_rg1 (ev_op (ev_var) ((ev_cI 0).t) rd_ix)) (eg_name) (eb_yes) ((ef_lc (ei_rg1 (ev_op (ev_var) ((ev_cI 0).t) rd_ix)) (eg_name) (eb_yes) (ev_if (eb_test (ev_op (ev_var) ((ev_var).t) rd_eqD)) (ev_cI 1) (ev_cI 0))).ev)).ev) eg_name) (s_seq (s_for (ei_rg1 (ev_var)) (eg_name) (s_asg (ev_call (ea_cons (ev_var) (ea_cons (ev_var) (ea_nil))) (len_cons (len_cons (len_nil)))) eg_name)) (s_ret (ev_call (ea_cons (ev_var) (ea_nil)) (len_cons (len_nil))))))))
theorem w_closed_walks [TabOf] {P : Program} {w : World} {K : PySem.W.Frag} {mg : PySem.Str → Option Value} {base : Heap} {C fI : Addr} (T : Tx P K mg base C fI) : Wk P w K mg base 5 "closed_walks" (top 26) ["web", "many"] (spP C 2 G_closed_walks) := by
  have w_need_web := w_need_web (w := w) T
  have w_need_integer := w_need_integer (w := w) T
  have w_table := w_table (w := w) T
  have w_times := w_times (w := w) T
  have w_trace := w_trace (w := w) T
  refine wk_P (C := C) T.a_closed_walks sc_closed_walks rfl (by decide) (fun _ _ _ _ _ _ us hl => match us, hl with | [_, _], _ => rfl) (t_closed_walks K C) e_closed_walks (fun f cdv hcv A outer s H E hr => ?_)
  exact pss_cons (ps_expr (pe_w w_need_web hr (passes_call (takes_of (by rfl) (by rfl) (by rfl) (by rfl)) (fun _ _ _ _ h => h)) (pa_cons (pv 0) (pa_cons (pe_str) (pa_cons (pe_globI (by rfl) T.c_MOST_PLACES) (pa_nil)))))) (pss_cons (ps_expr (pe_w w_need_integer hr (passes_call (takes_of (by rfl) (by rfl) (by rfl) (by rfl)) (fun _ _ _ _ h => h)) (pa_cons (pv 1) (pa_cons (pe_str) (pa_cons (pe_int) (pa_cons (pe_globI (by rfl) T.c_MOST_STEPS) (pa_nil))))))) (pss_cons (ps_set (i := 2) sc_closed_walks.nd (by rfl) (Or.inl (by rfl)) (pe_w w_table hr passL (pa_cons (pv 0) (pa_nil)))) (pss_cons (ps_setLc (i := 3) (own := [("place", 5)]) (g := gName 5) (tt := tYes) (te := tLc (iRng1 (tCons (tOp (rIx K) (tVar 0) (tC (.int 0))) tNil)) (gName 6) (tYes) (tIf (tTest (tOp (rEqD K) (tVar 5) (tVar 6))) (tC (.int 1)) (tC (.int 0))) [6]) (wi := iRng1 (tCons (tOp (rIx K) (tVar 0) (tC (.int 0))) tNil)) (by rfl) sc_closed_walks.nd (by rfl) (by rfl) (sw_true (by rfl) (by rfl) (by rfl) (by first | rfl | kernel_rfl)) (pi_range1 (by rfl) T.b_range (pa_cons (pe_ix ix_seq (pv 0) (pe_int) (fun _ _ => rfl)) pa_nil)) (blkOk_by (by first | rfl | kernel_rfl)) (fun _ _ _ _ _ => pg_name (i := 5) sc_closed_walks.nd (by rfl) (Or.inr (by rfl))) (fun _ _ _ _ _ => pts_nil) (fun _ _ _ _ _ => pe_lc (own := [("other", 6)]) (g := gName 6) (tt := tYes) (te := tIf (tTest (tOp (rEqD K) (tVar 5) (tVar 6))) (tC (.int 1)) (tC (.int 0))) (wi := iRng1 (tCons (tOp (rIx K) (tVar 0) (tC (.int 0))) tNil)) (by rfl) sc_closed_walks.nd (pi_range1 (by rfl) T.b_range (pa_cons (pe_ix ix_seq (pv 0) (pe_int) (fun _ _ => rfl)) pa_nil)) (blkOk_by (by first | rfl | kernel_rfl)) (fun _ _ _ _ _ => pg_name (i := 6) sc_closed_walks.nd (by rfl) (Or.inl (by rfl))) (fun _ _ _ _ _ => pts_nil) (fun _ _ _ _ _ => pe_ifExp (pt_cmpR (op_eqD hr.units) (pv 5) (pv 6) (nomark _)) (pe_int) (pe_int)))) (pss_cons (ps_for (passes_of (by rfl)) (by rfl) (pi_range1 (by rfl) T.b_range (pa_cons (pv 1) pa_nil)) (pg_name (i := 4) sc_closed_walks.nd (by rfl) (Or.inl (by rfl))) (pss_one (ps_set (i := 3) sc_closed_walks.nd (by rfl) (Or.inl (by rfl)) (pe_w w_times hr passL (pa_cons (pv 3) (pa_cons (pv 2) (pa_nil))))))) (pss_one (ps_ret (pe_w w_trace hr passL (pa_cons (pv 3) (pa_nil)))))))))
/-! ### polynomial -/
abbrev N_polynomial : List PySem.Str := ["web", "own", "numbers", "held", "step", "product", "number", "place", "other", "at", "to"]
def t_polynomial [TabOf] (K : PySem.W.Frag) (C : Addr) (E : XK) : TS := tSeq (tDrop (tCall (spP C 3 G_need_web) [] E (tCons (tVar 0) (tCons (tC (.str "web")) (tCons (tC (.int 26)) (tNil)))))) (tSeq (tAsg (tCall (spP C 1 G_table) [] E0 (tCons (tVar 0) (tNil))) (gName 1)) (tSeq (tAsg (tLst (tCons (tC (.int 1)) (tNil))) (gName 2)) (tSeq (tAsg (tLc (iRng1 (tCons (tOp (rIx K) (tVar 0) (tC (.int 0))) tNil)) (gName 7) (tYes) (tLc (iRng1 (tCons (tOp (rIx K) (tVar 0) (tC (.int 0))) tNil)) (gName 8) (tYes) (tIf (tTest (tOp (rEqD K) (tVar 7) (tVar 8))) (tC (.int 1)) (tC (.int 0))) [8]) [7]) (gName 3)) (tSeq (tFor (iRng2 (tCons (tC (.int 1)) (tCons (tOp (rAddX K) (tOp (rIx K) (tVar 0) (tC (.int 0))) (tC (.int 1))) (tNil)))) (gName 4) (tSeq (tAsg (tCall (spP C 2 G_times) [] E0 (tCons (tVar 1) (tCons (tVar 3) (tNil)))) (gName 5)) (tSeq (tAsg (tOp rSubI (tC (.int 0)) (tOp rDivI (tCall (spP C 1 G_trace) [] E0 (tCons (tVar 5) (tNil))) (tVar 4))) (gName 6)) (tSeq (tDrop (tBM K "list" rAppend (tVar 2) (tCons (tVar 6) tNil))) (tAsg (tLc (iRng1 (tCons (tOp (rIx K) (tVar 0) (tC (.int 0))) tNil)) (gName 9) (tYes) (tLc (iRng1 (tCons (tOp (rIx K) (tVar 0) (tC (.int 0))) tNil)) (gName 10) (tYes) (tOp (rAddX K) (tOp (rIx K) (tOp (rIx K) (tVar 5) (tVar 9)) (tVar 10)) (tIf (tTest (tOp (rEqD K) (tVar 9) (tVar 10))) (tVar 6) (tC (.int 0)))) [10]) [9]) (gName 3)))))) (tRet (tCB (rTupS K) (tCons (tRevL K (tVar 2)) tNil)))))))
def F_polynomial : FS := sSeq (sCallX G_need_web (fCons (fVar 0) (fCons (fC (.str "web")) (fCons (fC (.int 26)) (fNil))))) (sSeq (sAsg (fCall G_table (fCons (fVar 0) (fNil))) (tgN 1)) (sSeq (sAsgMu 2 (fLst (fCons (fC (.int 1)) (fNil)))) (sSeq (sAsg (fLc (fRg1 (fOp gIx (fVar 0) (fC (.int 0)))) (tgN 7) (fYes) (fLc (fRg1 (fOp gIx (fVar 0) (fC (.int 0)))) (tgN 8) (fYes) (fIf (fB (fOp gEq (fVar 7) (fVar 8))) (fC (.int 1)) (fC (.int 0))) [8]) [7]) (tgN 3)) (sSeq (sFor (fRg2 (fCons (fC (.int 1)) (fCons (fOp gAdd (fOp gIx (fVar 0) (fC (.int 0))) (fC (.int 1))) (fNil)))) (tgN 4) (sSeq (sAsg (fCall G_times (fCons (fVar 1) (fCons (fVar 3) (fNil)))) (tgN 5)) (sSeq (sAsg (fOp gSubI (fC (.int 0)) (fOp gDiv (fCall G_trace (fCons (fVar 5) (fNil))) (fVar 4))) (tgN 6)) (sSeq (sDrop (fApp 2 (fVar 6))) (sAsg (fLc (fRg1 (fOp gIx (fVar 0) (fC (.int 0)))) (tgN 9) (fYes) (fLc (fRg1 (fOp gIx (fVar 0) (fC (.int 0)))) (tgN 10) (fYes) (fOp gAdd (fOp gIx (fOp gIx (fVar 5) (fVar 9)) (fVar 10)) (fIf (fB (fOp gEq (fVar 9) (fVar 10))) (fVar 6) (fC (.int 0)))) [10]) [9]) (tgN 3)))))) (sRet (fUn gTuple (fUn gRev (fMu 2))))))))
def G_polynomial := runP 11 1 F_polynomial
theorem sc_polynomial : FnScope N_polynomial ["web"] (defScope (top 27)) := ⟨rfl, rfl, rfl, by decide +kernel, rfl, by decide +kernel, by decide +kernel⟩
theorem e_polynomial [TabOf] {K : PySem.W.Frag} {C : Addr} (E : XK) : EvS true C E (t_polynomial K C E) F_polynomial := s_seq (s_callX (ea_cons (ev_var) (ea_cons (ev_cS "web") (ea_cons (ev_cI 26) (ea_nil)))) (len_cons (len_cons (len_cons (len_nil))))) (s_seq (s_asg (ev_call (ea_cons (ev_var) (ea_nil)) (len_cons (len_nil))) eg_name) (s_seq (s_asgMu (ef_lst (ea_cons (ev_cI 1) (ea_nil)) (len_cons (len_nil)))) (s_seq (s_asg ((ef_lc (ei_rg1 (ev_op (ev_var) ((ev_cI 0).t) rd_ix)) (eg_name) (eb_yes) ((ef_lc (ei_rg1 (ev_op (ev_var) ((ev_cI 0).t) rd_ix)) (eg_name) (eb_yes) (ev_if (eb_test (ev_op (ev_var) ((ev_var).t) rd_eqD)) (ev_cI 1) (ev_cI 0))).ev)).ev) eg_name) (s_seq (s_for (ei_rg2 (ea_cons (ev_cI 1) (ea_cons (ev_op (ev_op (ev_var) ((ev_cI 0).t) rd_ix) ((ev_cI 1).t) rd_add) (ea_nil)))) (eg_name) (s_seq (s_asg (ev_call (ea_cons (ev_var) (ea_cons (ev_var) (ea_nil))) (len_cons (len_cons (len_nil)))) eg_name) (s_seq (s_asg (ev_op (ev_cI 0) ((ev_op (ev_call (ea_cons (ev_var) (ea_nil)) (len_cons (len_nil))) ((ev_var).t) rd_div).t) rd_sub) eg_name) (s_seq (s_drop (ev_app (ev_var))) (s_asg ((ef_lc (ei_rg1 (ev_op (ev_var) ((ev_cI 0).t) rd_ix)) (eg_name) (eb_yes) ((ef_lc (ei_rg1 (ev_op (ev_var) ((ev_cI 0).t) rd_ix)) (eg_name) (eb_yes) (ev_op (ev_op (ev_op (ev_var) ((ev_var).t) rd_ix) ((ev_var).t) rd_ix) ((ev_if (eb_test (ev_op (ev_var) ((ev_var).t) rd_eqD)) (ev_var) (ev_cI 0)).t) rd_add)).ev)).ev) eg_name))))) (s_ret (ev_call1 ((ev_rev (ev_mu)).t) rd_tuple))))))
theorem w_polynomial [TabOf] {P : Program} {w : World} {K : PySem.W.Frag} {mg : PySem.Str → Option Value} {base : Heap} {C fI : Addr} (T : Tx P K mg base C fI) : Wk P w K mg base 5 "polynomial" (top 27) ["web"] (spP C 1 G_polynomial) := by
  have w_need_web := w_need_web (w := w) T
  have w_table := w_table (w := w) T
  have w_times := w_times (w := w) T
  have w_trace := w_trace (w := w) T
  refine wk_P (C := C) T.a_polynomial sc_polynomial rfl (by decide) (fun _ _ _ _ _ _ us hl => match us, hl with | [_], _ => rfl) (t_polynomial K C) e_polynomial (fun f cdv hcv A outer s H E hr => ?_)
  exact pss_cons (ps_expr (pe_w w_need_web hr (passes_call (takes_of (by rfl) (by rfl) (by rfl) (by rfl)) (fun _ _ _ _ h => h)) (pa_cons (pv 0) (pa_cons (pe_str) (pa_cons (pe_globI (by rfl) T.c_MOST_PLACES) (pa_nil)))))) (pss_cons (ps_set (i := 1) sc_polynomial.nd (by rfl) (Or.inl (by rfl)) (pe_w w_table hr passL (pa_cons (pv 0) (pa_nil)))) (pss_cons (ps_set (i := 2) sc_polynomial.nd (by rfl) (Or.inl (by rfl)) (pe_lst (pa_cons (pe_int) (pa_nil)))) (pss_cons (ps_setLc (i := 3) (own := [("place", 7)]) (g := gName 7) (tt := tYes) (te := tLc (iRng1 (tCons (tOp (rIx K) (tVar 0) (tC (.int 0))) tNil)) (gName 8) (tYes) (tIf (tTest (tOp (rEqD K) (tVar 7) (tVar 8))) (tC (.int 1)) (tC (.int 0))) [8]) (wi := iRng1 (tCons (tOp (rIx K) (tVar 0) (tC (.int 0))) tNil)) (by rfl) sc_polynomial.nd (by rfl) (by rfl) (sw_true (by rfl) (by rfl) (by rfl) (by first | rfl | kernel_rfl)) (pi_range1 (by rfl) T.b_range (pa_cons (pe_ix ix_seq (pv 0) (pe_int) (fun _ _ => rfl)) pa_nil)) (blkOk_by (by first | rfl | kernel_rfl)) (fun _ _ _ _ _ => pg_name (i := 7) sc_polynomial.nd (by rfl) (Or.inr (by rfl))) (fun _ _ _ _ _ => pts_nil) (fun _ _ _ _ _ => pe_lc (own := [("other", 8)]) (g := gName 8) (tt := tYes) (te := tIf (tTest (tOp (rEqD K) (tVar 7) (tVar 8))) (tC (.int 1)) (tC (.int 0))) (wi := iRng1 (tCons (tOp (rIx K) (tVar 0) (tC (.int 0))) tNil)) (by rfl) sc_polynomial.nd (pi_range1 (by rfl) T.b_range (pa_cons (pe_ix ix_seq (pv 0) (pe_int) (fun _ _ => rfl)) pa_nil)) (blkOk_by (by first | rfl | kernel_rfl)) (fun _ _ _ _ _ => pg_name (i := 8) sc_polynomial.nd (by rfl) (Or.inl (by rfl))) (fun _ _ _ _ _ => pts_nil) (fun _ _ _ _ _ => pe_ifExp (pt_cmpR (op_eqD hr.units) (pv 7) (pv 8) (nomark _)) (pe_int) (pe_int)))) (pss_cons (ps_for (passes_of (by rfl)) (by rfl) (pi_range2 (by rfl) T.b_range (pa_cons (pe_int) (pa_cons (pe_op op_addX (pe_ix ix_seq (pv 0) (pe_int) (fun _ _ => rfl)) (pe_int)) (pa_nil)))) (pg_name (i := 4) sc_polynomial.nd (by rfl) (Or.inl (by rfl))) (pss_cons (ps_set (i := 5) sc_polynomial.nd (by rfl) (Or.inr (by rfl)) (pe_w w_times hr passL (pa_cons (pv 1) (pa_cons (pv 3) (pa_nil))))) (pss_cons (ps_set (i := 6) sc_polynomial.nd (by rfl) (Or.inr (by rfl)) (pe_op op_sub (pe_int) (pe_op op_fdiv (pe_w w_trace hr passL (pa_cons (pv 5) (pa_nil))) (pv 4)))) (pss_cons (ps_expr (pe_bm PySem.F.plainAttrs_list PySem.F.slot_list_append PySem.F.type_list_append mt_append (pv 2) (pa_cons (pv 6) pa_nil))) (pss_one (ps_setLc (i := 3) (own := [("at", 9)]) (g := gName 9) (tt := tYes) (te := tLc (iRng1 (tCons (tOp (rIx K) (tVar 0) (tC (.int 0))) tNil)) (gName 10) (tYes) (tOp (rAddX K) (tOp (rIx K) (tOp (rIx K) (tVar 5) (tVar 9)) (tVar 10)) (tIf (tTest (tOp (rEqD K) (tVar 9) (tVar 10))) (tVar 6) (tC (.int 0)))) [10]) (wi := iRng1 (tCons (tOp (rIx K) (tVar 0) (tC (.int 0))) tNil)) (by rfl) sc_polynomial.nd (by rfl) (by rfl) (sw_true (by rfl) (by rfl) (by rfl) (by first | rfl | kernel_rfl)) (pi_range1 (by rfl) T.b_range (pa_cons (pe_ix ix_seq (pv 0) (pe_int) (fun _ _ => rfl)) pa_nil)) (blkOk_by (by first | rfl | kernel_rfl)) (fun _ _ _ _ _ => pg_name (i := 9) sc_polynomial.nd (by rfl) (Or.inr (by rfl))) (fun _ _ _ _ _ => pts_nil) (fun _ _ _ _ _ => pe_lc (own := [("to", 10)]) (g := gName 10) (tt := tYes) (te := tOp (rAddX K) (tOp (rIx K) (tOp (rIx K) (tVar 5) (tVar 9)) (tVar 10)) (tIf (tTest (tOp (rEqD K) (tVar 9) (tVar 10))) (tVar 6) (tC (.int 0)))) (wi := iRng1 (tCons (tOp (rIx K) (tVar 0) (tC (.int 0))) tNil)) (by rfl) sc_polynomial.nd (pi_range1 (by rfl) T.b_range (pa_cons (pe_ix ix_seq (pv 0) (pe_int) (fun _ _ => rfl)) pa_nil)) (blkOk_by (by first | rfl | kernel_rfl)) (fun _ _ _ _ _ => pg_name (i := 10) sc_polynomial.nd (by rfl) (Or.inl (by rfl))) (fun _ _ _ _ _ => pts_nil) (fun _ _ _ _ _ => pe_op op_addX (pe_ix ix_seq (pe_ix ix_seq (pv 5) (pv 9) (fun _ _ => rfl)) (pv 10) (fun _ _ => rfl)) (pe_ifExp (pt_cmpR (op_eqD hr.units) (pv 9) (pv 10) (nomark _)) (pv 6) (pe_int)))))))))) (pss_one (ps_ret (pe_callTy call_tuple_of (by rfl) T.b_tuple (by first | rfl | decide +kernel) (pa_cons (pe_revL (pv 2)) pa_nil))))))))
/-! ### switched -/
abbrev N_switched : List PySem.Str := ["web", "places", "rows", "own", "half", "ties", "at", "tie", "to"]
def t_switched [TabOf] (K : PySem.W.Frag) (C : Addr) (E : XK) : TS := tSeq (tDrop (tCall (spP C 3 G_need_web) [] E (tCons (tVar 0) (tCons (tC (.str "web")) (tCons (tC (.int 26)) (tNil)))))) (tSeq (tIfS (tNot (tB (tCall (spP C 2 G_is_switch) [] E0 (tCons (tVar 0) (tCons (tVar 1) (tNil)))))) (tRaiseBad C (fun cls d _ H => E cls d H) (tCons (tC (.str "places")) tNil)) (tNext)) (tSeq (tAsg (tCall (spP C 1 G_sides) [] E0 (tCons (tVar 0) (tNil))) (gName 2)) (tSeq (tAsg (tLc (iRng1 (tCons (tOp (rIx K) (tVar 0) (tC (.int 0))) tNil)) (gName 6) (tYes) (tCB (rLenS K) (tCons (tLc (iSeq K (tOp (rIx K) (tVar 2) (tVar 6))) (gName 8) (tTest (tOp (rInX K false) (tVar 8) (tVar 1))) (tVar 8) [8]) tNil)) [6]) (gName 3)) (tSeq (tAsg (tLc (iRng1 (tCons (tOp (rIx K) (tVar 0) (tC (.int 0))) tNil)) (gName 6) (tAnd (tTest (tOp (rInX K true) (tVar 6) (tVar 1))) (tTest (tOp (rEqD K) (tOp rMulX (tC (.int 2)) (tOp (rIx K) (tVar 3) (tVar 6))) (tCB (rLenS K) (tCons (tVar 1) tNil))))) (tVar 6) [6]) (gName 4)) (tSeq (tAsg (tLc (iSeq K (tOp (rIx K) (tVar 0) (tC (.int 1)))) (gName 7) (tNot (tB (tCall (spP C 3 G_is_crossing) [] E0 (tCons (tVar 7) (tCons (tVar 1) (tCons (tVar 4) (tNil))))))) (tVar 7) [7]) (gName 5)) (tSeq (tFor (iSeq K (tVar 4)) (gName 6) (tDrop (tBM K "list" rExtend (tVar 5) (tCons (tLc (iSeq K (tVar 1)) (gName 8) (tTest (tOp (rInX K true) (tVar 8) (tOp (rIx K) (tVar 2) (tVar 6)))) (tTup (tCons (tCB rMin2I (tCons (tVar 6) (tCons (tVar 8) (tNil)))) (tCons (tCB rMax2I (tCons (tVar 6) (tCons (tVar 8) (tNil)))) (tNil)))) [8]) tNil)))) (tRet (tTup (tCons (tOp (rIx K) (tVar 0) (tC (.int 0))) (tCons (tCB (rTupS K) (tCons (tCB (rSortX K) (tCons (tVar 5) tNil)) tNil)) (tNil)))))))))))
def F_switched : FS := sSeq (sCallX G_need_web (fCons (fVar 0) (fCons (fC (.str "web")) (fCons (fC (.int 26)) (fNil))))) (sSeq (sIf (fNot (fB (fCall G_is_switch (fCons (fVar 0) (fCons (fVar 1) (fNil)))))) (sRaise (fC (.str "places"))) (sNext)) (sSeq (sAsg (fCall G_sides (fCons (fVar 0) (fNil))) (tgN 2)) (sSeq (sAsg (fLc (fRg1 (fOp gIx (fVar 0) (fC (.int 0)))) (tgN 6) (fYes) (fUn gLen (fLc (fSeq (fOp gIx (fVar 2) (fVar 6))) (tgN 8) (fB (fOp (gIn false) (fVar 8) (fVar 1))) (fVar 8) [8])) [6]) (tgN 3)) (sSeq (sAsg (fLc (fRg1 (fOp gIx (fVar 0) (fC (.int 0)))) (tgN 6) (fAnd (fB (fOp (gIn true) (fVar 6) (fVar 1))) (fB (fOp gEq (fOp gMul (fC (.int 2)) (fOp gIx (fVar 3) (fVar 6))) (fUn gLen (fVar 1))))) (fVar 6) [6]) (tgN 4)) (sSeq (sAsgMu 5 (fLc (fSeq (fOp gIx (fVar 0) (fC (.int 1)))) (tgN 7) (fNot (fB (fCall G_is_crossing (fCons (fVar 7) (fCons (fVar 1) (fCons (fVar 4) (fNil))))))) (fVar 7) [7])) (sSeq (sFor (fSeq (fVar 4)) (tgN 6) (sDrop (fExt 5 (fLc (fSeq (fVar 1)) (tgN 8) (fB (fOp (gIn true) (fVar 8) (fOp gIx (fVar 2) (fVar 6)))) (fTup (fCons (fCB gMin2 (fCons (fVar 6) (fCons (fVar 8) (fNil)))) (fCons (fCB gMax2 (fCons (fVar 6) (fCons (fVar 8) (fNil)))) (fNil)))) [8])))) (sRet (fTup (fCons (fOp gIx (fVar 0) (fC (.int 0))) (fCons (fUn gTuple (fUn gSorted (fMu 5))) (fNil)))))))))))
def G_switched := runP 9 2 F_switched
theorem sc_switched : FnScope N_switched ["web", "places"] (defScope (top 13)) := ⟨rfl, rfl, rfl, by decide +kernel, rfl, by decide +kernel, by decide +kernel⟩
theorem e_switched [TabOf] {K : PySem.W.Frag} {C : Addr} (E : XK) : EvS true C E (t_switched K C E) F_switched := s_seq (s_callX (ea_cons (ev_var) (ea_cons (ev_cS "web") (ea_cons (ev_cI 26) (ea_nil)))) (len_cons (len_cons (len_cons (len_nil))))) (s_seq (s_if (eb_not (eb_val (ev_call (ea_cons (ev_var) (ea_cons (ev_var) (ea_nil))) (len_cons (len_cons (len_nil)))))) (s_raise (ev_cS "places")) (s_next)) (s_seq (s_asg (ev_call (ea_cons (ev_var) (ea_nil)) (len_cons (len_nil))) eg_name) (s_seq (s_asg ((ef_lc (ei_rg1 (ev_op (ev_var) ((ev_cI 0).t) rd_ix)) (eg_name) (eb_yes) (ev_call1 (((ef_lc (ei_seq (ev_op (ev_var) ((ev_var).t) rd_ix)) (eg_name) (eb_test (ev_op (ev_var) ((ev_var).t) rd_in)) (ev_var)).ev).t) rd_len)).ev) eg_name) (s_seq (s_asg ((ef_lc (ei_rg1 (ev_op (ev_var) ((ev_cI 0).t) rd_ix)) (eg_name) (eb_and (eb_test (ev_op (ev_var) ((ev_var).t) rd_in)) (eb_test (ev_op (ev_op (ev_cI 2) ((ev_op (ev_var) ((ev_var).t) rd_ix).t) rd_mul) ((ev_call1 ((ev_var).t) rd_len).t) rd_eqD))) (ev_var)).ev) eg_name) (s_seq (s_asgMu (ef_lc (ei_seq (ev_op (ev_var) ((ev_cI 1).t) rd_ix)) (eg_name) (eb_not (eb_val (ev_call (ea_cons (ev_var) (ea_cons (ev_var) (ea_cons (ev_var) (ea_nil)))) (len_cons (len_cons (len_cons (len_nil))))))) (ev_var))) (s_seq (s_for (ei_seq (ev_var)) (eg_name) (s_drop (ev_ext ((ef_lc (ei_seq (ev_var)) (eg_name) (eb_test (ev_op (ev_var) ((ev_op (ev_var) ((ev_var).t) rd_ix).t) rd_in)) (ev_tup (ea_cons (ev_callA (ea_cons (ev_var) (ea_cons (ev_var) (ea_nil))) rd_min2) (ea_cons (ev_callA (ea_cons (ev_var) (ea_cons (ev_var) (ea_nil))) rd_max2) (ea_nil))) (len_cons (len_cons (len_nil))))).ev)))) (s_ret (ev_tup (ea_cons (ev_op (ev_var) ((ev_cI 0).t) rd_ix) (ea_cons (ev_call1 ((ev_call1 (ev_mu) rd_sorted).t) rd_tuple) (ea_nil))) (len_cons (len_cons (len_nil)))))))))))
theorem w_switched [TabOf] {P : Program} {w : World} {K : PySem.W.Frag} {mg : PySem.Str → Option Value} {base : Heap} {C fI : Addr} (T : Tx P K mg base C fI) : Wk P w K mg base 6 "switched" (top 13) ["web", "places"] (spP C 2 G_switched) := by
  have w_need_web := w_need_web (w := w) T
  have w_is_switch := w_is_switch (w := w) T
  have w_sides := w_sides (w := w) T
  have w_is_crossing := w_is_crossing (w := w) T
  refine wk_P (C := C) T.a_switched sc_switched rfl (by decide) (fun _ _ _ _ _ _ us hl => match us, hl with | [_, _], _ => rfl) (t_switched K C) e_switched (fun f cdv hcv A outer s H E hr => ?_)
  exact pss_cons (ps_expr (pe_w w_need_web hr (passes_call (takes_of (by rfl) (by rfl) (by rfl) (by rfl)) (fun _ _ _ _ h => h)) (pa_cons (pv 0) (pa_cons (pe_str) (pa_cons (pe_globI (by rfl) T.c_MOST_PLACES) (pa_nil)))))) (pss_cons (ps_if (pt_not (pt_val (pe_w w_is_switch hr passL (pa_cons (pv 0) (pa_cons (pv 1) (pa_nil)))))) (pss_one (ps_raiseBad (by rfl) T.bad hr (by decide) (takes_of (by rfl) (by rfl) (by rfl) (by rfl)) (pa_cons (pe_str) pa_nil))) (pss_nil)) (pss_cons (ps_set (i := 2) sc_switched.nd (by rfl) (Or.inr (by rfl)) (pe_w w_sides hr passL (pa_cons (pv 0) (pa_nil)))) (pss_cons (ps_set (i := 3) sc_switched.nd (by rfl) (Or.inr (by rfl)) (pe_lc (own := [("at", 6)]) (g := gName 6) (tt := tYes) (te := tCB (rLenS K) (tCons (tLc (iSeq K (tOp (rIx K) (tVar 2) (tVar 6))) (gName 8) (tTest (tOp (rInX K false) (tVar 8) (tVar 1))) (tVar 8) [8]) tNil)) (wi := iRng1 (tCons (tOp (rIx K) (tVar 0) (tC (.int 0))) tNil)) (by rfl) sc_switched.nd (pi_range1 (by rfl) T.b_range (pa_cons (pe_ix ix_seq (pv 0) (pe_int) (fun _ _ => rfl)) pa_nil)) (blkOk_by (by first | rfl | kernel_rfl)) (fun _ _ _ _ _ => pg_name (i := 6) sc_switched.nd (by rfl) (Or.inl (by rfl))) (fun _ _ _ _ _ => pts_nil) (fun _ _ _ _ _ => pe_callB call_len_seq (by rfl) T.b_len (by first | rfl | decide +kernel) (pa_cons (pe_lc (own := [("to", 8)]) (g := gName 8) (tt := tTest (tOp (rInX K false) (tVar 8) (tVar 1))) (te := tVar 8) (wi := iSeq K (tOp (rIx K) (tVar 2) (tVar 6))) (by rfl) sc_switched.nd (pi_seq (pe_ix ix_seq (pv 2) (pv 6) (fun _ _ => rfl))) (blkOk_by (by first | rfl | kernel_rfl)) (fun _ _ _ _ _ => pg_name (i := 8) sc_switched.nd (by rfl) (Or.inl (by rfl))) (fun _ _ _ _ _ => pts_one (pt_cmpR (op_inX (Room.u65 hr)) (pv 8) (pv 1) (by rfl))) (fun _ _ _ _ _ => pv 8)) pa_nil)))) (pss_cons (ps_set (i := 4) sc_switched.nd (by rfl) (Or.inr (by rfl)) (pe_lc (own := [("at", 6)]) (g := gName 6) (tt := tAnd (tTest (tOp (rInX K true) (tVar 6) (tVar 1))) (tTest (tOp (rEqD K) (tOp rMulX (tC (.int 2)) (tOp (rIx K) (tVar 3) (tVar 6))) (tCB (rLenS K) (tCons (tVar 1) tNil))))) (te := tVar 6) (wi := iRng1 (tCons (tOp (rIx K) (tVar 0) (tC (.int 0))) tNil)) (by rfl) sc_switched.nd (pi_range1 (by rfl) T.b_range (pa_cons (pe_ix ix_seq (pv 0) (pe_int) (fun _ _ => rfl)) pa_nil)) (blkOk_by (by first | rfl | kernel_rfl)) (fun _ _ _ _ _ => pg_name (i := 6) sc_switched.nd (by rfl) (Or.inl (by rfl))) (fun _ _ _ _ _ => pts_one ((pw_and (pt_cmpR (op_notInX (Room.u65 hr)) (pv 6) (pv 1) (by rfl)) (pw_and1 (pt_cmpR (op_eqD hr.units) (pe_op op_mulX (pe_int) (pe_ix ix_seq (pv 3) (pv 6) (fun _ _ => rfl))) (pe_callB call_len_seq (by rfl) T.b_len (by first | rfl | decide +kernel) (pa_cons (pv 1) pa_nil)) (nomark _)))).pt)) (fun _ _ _ _ _ => pv 6))) (pss_cons (ps_setLc (i := 5) (own := [("tie", 7)]) (g := gName 7) (tt := tNot (tB (tCall (spP C 3 G_is_crossing) [] E0 (tCons (tVar 7) (tCons (tVar 1) (tCons (tVar 4) (tNil))))))) (te := tVar 7) (wi := iSeq K (tOp (rIx K) (tVar 0) (tC (.int 1)))) (by rfl) sc_switched.nd (by rfl) (by rfl) (sw_true (by rfl) (by rfl) (by rfl) (by first | rfl | kernel_rfl)) (pi_seq (pe_ix ix_seq (pv 0) (pe_int) (fun _ _ => rfl))) (blkOk_by (by first | rfl | kernel_rfl)) (fun _ _ _ _ _ => pg_name (i := 7) sc_switched.nd (by rfl) (Or.inl (by rfl))) (fun _ _ _ _ _ => pts_one (pt_not (pt_val (pe_w w_is_crossing hr passL (pa_cons (pv 7) (pa_cons (pv 1) (pa_cons (pv 4) (pa_nil)))))))) (fun _ _ _ _ _ => pv 7)) (pss_cons (ps_for (passes_of (by rfl)) (by rfl) (pi_seq (pv 4)) (pg_name (i := 6) sc_switched.nd (by rfl) (Or.inr (by rfl))) (pss_one (ps_expr (pe_bm PySem.F.plainAttrs_list PySem.F.slot_list_extend PySem.F.type_list_extend mt_extend (pv 5) (pa_cons (pe_lc (own := [("to", 8)]) (g := gName 8) (tt := tTest (tOp (rInX K true) (tVar 8) (tOp (rIx K) (tVar 2) (tVar 6)))) (te := tTup (tCons (tCB rMin2I (tCons (tVar 6) (tCons (tVar 8) (tNil)))) (tCons (tCB rMax2I (tCons (tVar 6) (tCons (tVar 8) (tNil)))) (tNil)))) (wi := iSeq K (tVar 1)) (by rfl) sc_switched.nd (pi_seq (pv 1)) (blkOk_by (by first | rfl | kernel_rfl)) (fun _ _ _ _ _ => pg_name (i := 8) sc_switched.nd (by rfl) (Or.inl (by rfl))) (fun _ _ _ _ _ => pts_one (pt_cmpR (op_notInX (Room.u65 hr)) (pv 8) (pe_ix ix_seq (pv 2) (pv 6) (fun _ _ => rfl)) (by rfl))) (fun _ _ _ _ _ => pe_tup (pa_cons (pe_callB (call_min2 (by rfl)) (by rfl) T.b_min (by first | rfl | decide +kernel) (pa_cons (pv 6) (pa_cons (pv 8) (pa_nil)))) (pa_cons (pe_callB (call_max2 (by rfl)) (by rfl) T.b_max (by first | rfl | decide +kernel) (pa_cons (pv 6) (pa_cons (pv 8) (pa_nil)))) (pa_nil))))) pa_nil))))) (pss_one (ps_ret (pe_tup (pa_cons (pe_ix ix_seq (pv 0) (pe_int) (fun _ _ => rfl)) (pa_cons (pe_callTy call_tuple_of (by rfl) T.b_tuple (by first | rfl | decide +kernel) (pa_cons (pe_callB (cr_sortX hr.units) (by rfl) T.b_sorted (by first | rfl | decide +kernel) (pa_cons (pv 5) pa_nil)) pa_nil)) (pa_nil))))))))))))
/-! ### switches -/
abbrev N_switches : List PySem.Str := ["web", "size", "rows", "turn", "row", "one"]
def t_switches [TabOf] (K : PySem.W.Frag) (C : Addr) (E : XK) : TS := tSeq (tDrop (tCall (spP C 3 G_need_web) [] E (tCons (tVar 0) (tCons (tC (.str "web")) (tCons (tC (.int 26)) (tNil)))))) (tSeq (tIfS (tOr (tNot (tB (tCall (spP C 1 G_is_integer) [] E0 (tCons (tVar 1) (tNil))))) (tNot (tTest (tChain rLeI rLeI (tC (.int 1)) (tVar 1) (tC (.int 4)))))) (tRaiseBad C (fun cls d _ H => E cls d H) (tCons (tC (.str "size")) tNil)) (tNext)) (tSeq (tAsg (tLst (tCons (tTup (tNil)) (tNil))) (gName 2)) (tSeq (tFor (iRng1 (tCons (tVar 1) tNil)) (gName 3) (tAsg (tLc2 (iSeq K (tVar 2)) (gName 4) (tYes) (iRng2 (tCons (tIf (tTest (tOp rGtI (tCB (rLenS K) (tCons (tVar 4) tNil)) (tC (.int 0)))) (tOp (rAddX K) (tOp (rIx K) (tVar 4) (tOp rSubI (tCB (rLenS K) (tCons (tVar 4) tNil)) (tC (.int 1)))) (tC (.int 1))) (tC (.int 0))) (tCons (tOp (rIx K) (tVar 0) (tC (.int 0))) (tNil)))) (gName 5) (tYes) (tOp (rAddX K) (tVar 4) (tTup (tCons (tVar 5) (tNil)))) [4, 5] [5]) (gName 2))) (tRet (tCB (rTupS K) (tCons (tLc (iSeq K (tVar 2)) (gName 4) (tB (tCall (spP C 2 G_is_switch) [] E0 (tCons (tVar 0) (tCons (tVar 4) (tNil))))) (tVar 4) [4]) tNil))))))
def F_switches : FS := sSeq (sCallX G_need_web (fCons (fVar 0) (fCons (fC (.str "web")) (fCons (fC (.int 26)) (fNil))))) (sSeq (sIf (fOr (fNot (fB (fCall G_is_integer (fCons (fVar 1) (fNil))))) (fNot (fB (fChain gLe gLe (fC (.int 1)) (fVar 1) (fC (.int 4)))))) (sRaise (fC (.str "size"))) (sNext)) (sSeq (sAsg (fLst (fCons (fTup (fNil)) (fNil))) (tgN 2)) (sSeq (sFor (fRg1 (fVar 1)) (tgN 3) (sAsg (fLc2 (fSeq (fVar 2)) (tgN 4) (fYes) (fRg2 (fCons (fIf (fB (fOp gGt (fUn gLen (fVar 4)) (fC (.int 0)))) (fOp gAdd (fOp gIx (fVar 4) (fOp gSubI (fUn gLen (fVar 4)) (fC (.int 1)))) (fC (.int 1))) (fC (.int 0))) (fCons (fOp gIx (fVar 0) (fC (.int 0))) (fNil)))) (tgN 5) (fYes) (fOp gAdd (fVar 4) (fTup (fCons (fVar 5) (fNil)))) [4, 5] [5]) (tgN 2))) (sRet (fUn gTuple (fLc (fSeq (fVar 2)) (tgN 4) (fB (fCall G_is_switch (fCons (fVar 0) (fCons (fVar 4) (fNil))))) (fVar 4) [4]))))))
def G_switches := runP 6 2 F_switches
theorem sc_switches : FnScope N_switches ["web", "size"] (defScope (top 17)) := ⟨rfl, rfl, rfl, by decide +kernel, rfl, by decide +kernel, by decide +kernel⟩
theorem e_switches [TabOf] {K : PySem.W.Frag} {C : Addr} (E : XK) : EvS true C E (t_switches K C E) F_switches := s_seq (s_callX (ea_cons (ev_var) (ea_cons (ev_cS "web") (ea_cons (ev_cI 26) (ea_nil)))) (len_cons (len_cons (len_cons (len_nil))))) (s_seq (s_if (eb_or (eb_not (eb_val (ev_call (ea_cons (ev_var) (ea_nil)) (len_cons (len_nil))))) (eb_not (eb_test (ev_chain (ev_cI 1) (ev_var) (ev_cI 4) rd_le rd_le)))) (s_raise (ev_cS "size")) (s_next)) (s_seq (s_asg (ev_lst (ea_cons (ev_tup (ea_nil) (len_nil)) (ea_nil)) (len_cons (len_nil))) eg_name) (s_seq (s_for (ei_rg1 (ev_var)) (eg_name) (s_asg ((ef_lc2 (ei_seq (ev_var)) (eg_name) (eb_yes) (ei_rg2 (ea_cons (ev_if (eb_test (ev_op (ev_call1 ((ev_var).t) rd_len) ((ev_cI 0).t) rd_gt)) (ev_op (ev_op (ev_var) ((ev_op (ev_call1 ((ev_var).t) rd_len) ((ev_cI 1).t) rd_sub).t) rd_ix) ((ev_cI 1).t) rd_add) (ev_cI 0)) (ea_cons (ev_op (ev_var) ((ev_cI 0).t) rd_ix) (ea_nil)))) (eg_name) (eb_yes) (ev_op (ev_var) ((ev_tup (ea_cons (ev_var) (ea_nil)) (len_cons (len_nil))).t) rd_add)).ev) eg_name)) (s_ret (ev_call1 (((ef_lc (ei_seq (ev_var)) (eg_name) (eb_val (ev_call (ea_cons (ev_var) (ea_cons (ev_var) (ea_nil))) (len_cons (len_cons (len_nil))))) (ev_var)).ev).t) rd_tuple)))))
theorem w_switches [TabOf] {P : Program} {w : World} {K : PySem.W.Frag} {mg : PySem.Str → Option Value} {base : Heap} {C fI : Addr} (T : Tx P K mg base C fI) : Wk P w K mg base 6 "switches" (top 17) ["web", "size"] (spP C 2 G_switches) := by
  have w_need_web := w_need_web (w := w) T
  have w_is_integer := w_is_integer (w := w) T
  have w_is_switch := w_is_switch (w := w) T
  refine wk_P (C := C) T.a_switches sc_switches rfl (by decide) (fun _ _ _ _ _ _ us hl => match us, hl with | [_, _], _ => rfl) (t_switches K C) e_switches (fun f cdv hcv A outer s H E hr => ?_)
  exact pss_cons (ps_expr (pe_w w_need_web hr (passes_call (takes_of (by rfl) (by rfl) (by rfl) (by rfl)) (fun _ _ _ _ h => h)) (pa_cons (pv 0) (pa_cons (pe_str) (pa_cons (pe_globI (by rfl) T.c_MOST_PLACES) (pa_nil)))))) (pss_cons (ps_if ((pw_or (pt_not (pt_val (pe_w w_is_integer hr passL (pa_cons (pv 1) (pa_nil))))) (pw_or1 (pt_not (pt_chain op_le op_le (pe_int) (pv 1) (pe_int))))).pt) (pss_one (ps_raiseBad (by rfl) T.bad hr (by decide) (takes_of (by rfl) (by rfl) (by rfl) (by rfl)) (pa_cons (pe_str) pa_nil))) (pss_nil)) (pss_cons (ps_set (i := 2) sc_switches.nd (by rfl) (Or.inl (by rfl)) (pe_lst (pa_cons (pe_tup (pa_nil)) (pa_nil)))) (pss_cons (ps_for (passes_of (by rfl)) (by rfl) (pi_range1 (by rfl) T.b_range (pa_cons (pv 1) pa_nil)) (pg_name (i := 3) sc_switches.nd (by rfl) (Or.inl (by rfl))) (pss_one (ps_setLc2 (i := 2) (own := [("row", 4), ("one", 5)]) (vs1 := [5]) (g := gName 4) (tt := tYes) (wi := iSeq K (tVar 2)) (g1 := gName 5) (tt1 := tYes) (wi1 := iRng2 (tCons (tIf (tTest (tOp rGtI (tCB (rLenS K) (tCons (tVar 4) tNil)) (tC (.int 0)))) (tOp (rAddX K) (tOp (rIx K) (tVar 4) (tOp rSubI (tCB (rLenS K) (tCons (tVar 4) tNil)) (tC (.int 1)))) (tC (.int 1))) (tC (.int 0))) (tCons (tOp (rIx K) (tVar 0) (tC (.int 0))) (tNil)))) (te := tOp (rAddX K) (tVar 4) (tTup (tCons (tVar 5) (tNil)))) (by rfl) sc_switches.nd (by rfl) (by rfl) (sw_true (by rfl) (by rfl) (by rfl) (by first | rfl | kernel_rfl)) (pi_seq (pv 2)) (blkOk_by (by first | rfl | kernel_rfl)) (by decide) (fun _ _ _ _ _ => pg_name (i := 4) sc_switches.nd (by rfl) (Or.inl (by rfl))) (fun _ _ _ _ _ => pts_nil) (fun _ _ _ _ _ => pi_range2 (by rfl) T.b_range (pa_cons (pe_ifExp (pt_cmpR op_gt (pe_callB call_len_seq (by rfl) T.b_len (by first | rfl | decide +kernel) (pa_cons (pv 4) pa_nil)) (pe_int) (nomark _)) (pe_op op_addX (pe_ix ix_seq (pv 4) (pe_op op_sub (pe_callB call_len_seq (by rfl) T.b_len (by first | rfl | decide +kernel) (pa_cons (pv 4) pa_nil)) (pe_int)) (fun _ _ => rfl)) (pe_int)) (pe_int)) (pa_cons (pe_ix ix_seq (pv 0) (pe_int) (fun _ _ => rfl)) (pa_nil)))) (fun _ _ _ _ _ => pg_name (i := 5) sc_switches.nd (by rfl) (Or.inl (by rfl))) (fun _ _ _ _ _ => pts_nil) (fun _ _ _ _ _ => pe_op op_addX (pv 4) (pe_tup (pa_cons (pv 5) (pa_nil))))))) (pss_one (ps_ret (pe_callTy call_tuple_of (by rfl) T.b_tuple (by first | rfl | decide +kernel) (pa_cons (pe_lc (own := [("row", 4)]) (g := gName 4) (tt := tB (tCall (spP C 2 G_is_switch) [] E0 (tCons (tVar 0) (tCons (tVar 4) (tNil))))) (te := tVar 4) (wi := iSeq K (tVar 2)) (by rfl) sc_switches.nd (pi_seq (pv 2)) (blkOk_by (by first | rfl | kernel_rfl)) (fun _ _ _ _ _ => pg_name (i := 4) sc_switches.nd (by rfl) (Or.inl (by rfl))) (fun _ _ _ _ _ => pts_one (pt_val (pe_w w_is_switch hr passL (pa_cons (pv 0) (pa_cons (pv 4) (pa_nil)))))) (fun _ _ _ _ _ => pv 4)) pa_nil)))))))
/-! ### _law_right -/
abbrev N__law_right : List PySem.Str := ["dice", "web", "made", "places", "good", "later", "many", "size", "some", "turned", "ties", "bad", "names", "one", "other", "place", "at"]
def t__law_right [TabOf] (K : PySem.W.Frag) (C : Addr) (E : XK) : TS := tSeq (tAsg (tCall (spD 1 G__law_made) [] E0 (tCons (tVar 0) (tNil))) (gTup K 2 (gCons (gName 1) (gCons (gName 2) (gNil))))) (tSeq (tIfS (tTest (tOp (rEqD K) (tCall (spD 2 G__law_roll) [] E0 (tCons (tVar 0) (tCons (tC (.int 3)) (tNil)))) (tC (.int 0)))) (tAsg (tCall (spD 2 G__law_some_web) [] E0 (tCons (tVar 0) (tCons (tC (.int 7)) (tNil)))) (gName 1)) (tNext)) (tSeq (tAsg (tIf (tAnd (tB (tCall (spP C 2 G__law_is_own_switch) [] E0 (tCons (tVar 1) (tCons (tLc (iSeq K (tVar 2)) (gName 16) (tTest (tOp (rLtX K) (tVar 16) (tOp (rIx K) (tVar 1) (tC (.int 0))))) (tVar 16) [16]) (tNil))))) (tTest (tOp (rLtX K) (tCB (rMaxX K) (tCons (tVar 2) tNil)) (tOp (rIx K) (tVar 1) (tC (.int 0)))))) (tVar 2) (tCB (rTupS K) (tCons (tCB (rSortX K) (tCons (tSl (rSlX K) (tCall (spD 2 G__law_shuffled) [] E0 (tCons (tVar 0) (tCons (tOp (rIx K) (tVar 1) (tC (.int 0))) (tNil)))) tNoPart (tPart (tOp (rAddX K) (tC (.int 1)) (tCall (spD 2 G__law_roll) [] E0 (tCons (tVar 0) (tCons (tOp (rIx K) (tVar 1) (tC (.int 0))) (tNil))))))) tNil)) tNil))) (gName 3)) (tSeq (tAsg (tCall (spP C 2 G__law_is_own_switch) [] E0 (tCons (tVar 1) (tCons (tVar 3) (tNil)))) (gName 4)) (tSeq (tIfS (tTest (tOp (rNeD K) (tCall (spP C 2 G_is_switch) [] E0 (tCons (tVar 1) (tCons (tVar 3) (tNil)))) (tVar 4))) (tRet (tC (.bl false))) (tNext)) (tSeq (tIfS (tB (tVar 4)) (tSeq (tAsg (tCall (spP C 2 G_switched) [] E0 (tCons (tVar 1) (tCons (tVar 3) (tNil)))) (gName 5)) (tSeq (tIfS (tOr (tTest (tOp (rNeD K) (tVar 5) (tCall (spP C 2 G__law_own_switched) [] E0 (tCons (tVar 1) (tCons (tVar 3) (tNil)))))) (tOr (tTest (tOp (rNeD K) (tCall (spP C 1 G_polynomial) [] E0 (tCons (tVar 5) (tNil))) (tCall (spP C 1 G_polynomial) [] E0 (tCons (tVar 1) (tNil))))) (tTest (tOp (rNeD K) (tCall (spP C 2 G_switched) [] E0 (tCons (tVar 5) (tCons (tVar 3) (tNil)))) (tVar 1))))) (tRet (tC (.bl false))) (tNext)) (tFor (iRng2 (tCons (tC (.int 2)) (tCons (tC (.int 6)) (tNil)))) (gName 6) (tIfS (tTest (tOp (rNeD K) (tCall (spP C 2 G_closed_walks) [] E0 (tCons (tVar 5) (tCons (tVar 6) (tNil)))) (tCall (spP C 2 G_closed_walks) [] E0 (tCons (tVar 1) (tCons (tVar 6) (tNil)))))) (tRet (tC (.bl false))) (tNext))))) (tIfS (tTest (tOp (rNeD K) (LamX.tLam TabOf.T (LamX.TTref K C) fun E => tCall (spP C 2 G_switched) [] E (tCons (tVar 1) (tCons (tVar 3) (tNil)))) (tC (.str "places")))) (tRet (tC (.bl false))) (tNext))) (tSeq (tAsg (tOp (rAddX K) (tC (.int 1)) (tCall (spD 2 G__law_roll) [] E0 (tCons (tVar 0) (tCons (tC (.int 4)) (tNil))))) (gName 7)) (tSeq (tIfS (tTest (tOp (rNeD K) (tCall (spP C 2 G_switches) [] E0 (tCons (tVar 1) (tCons (tVar 7) (tNil)))) (tCB (rTupS K) (tCons (tLc (iSeq K (tCall (spP C 2 G__law_some) [] E0 (tCons (tOp (rIx K) (tVar 1) (tC (.int 0))) (tCons (tVar 7) (tNil))))) (gName 8) (tB (tCall (spP C 2 G__law_is_own_switch) [] E0 (tCons (tVar 1) (tCons (tVar 8) (tNil))))) (tVar 8) [8]) tNil)))) (tRet (tC (.bl false))) (tNext)) (tSeq (tAsg (tCB (rTupS K) (tCons (tLc (iRng1 (tCons (tOp (rIx K) (tVar 1) (tC (.int 0))) tNil)) (gName 15) (tTest (tOp (rEqD K) (tCall (spD 2 G__law_roll) [] E0 (tCons (tVar 0) (tCons (tC (.int 2)) (tNil)))) (tC (.int 0)))) (tVar 15) [15]) tNil)) (gName 8)) (tSeq (tAsg (tCall (spP C 2 G_turned_web) [] E0 (tCons (tVar 1) (tCons (tVar 8) (tNil)))) (gName 9)) (tSeq (tAsg (tLc (iSeq K (tCall (spP C 2 G__law_some) [] E0 (tCons (tOp (rIx K) (tVar 1) (tC (.int 0))) (tCons (tC (.int 2)) (tNil))))) (gTup K 2 (gCons (gName 13) (gCons (gName 14) (gNil)))) (tTest (tOp (rNeD K) (tOp (rInX K false) (tTup (tCons (tVar 13) (tCons (tVar 14) (tNil)))) (tOp (rIx K) (tVar 1) (tC (.int 1)))) (tOp (rNeD K) (tOp (rInX K false) (tVar 13) (tVar 8)) (tOp (rInX K false) (tVar 14) (tVar 8))))) (tTup (tCons (tVar 13) (tCons (tVar 14) (tNil)))) [13, 14]) (gName 10)) (tSeq (tIfS (tOr (tTest (tOp (rNeD K) (tVar 9) (tTup (tCons (tOp (rIx K) (tVar 1) (tC (.int 0))) (tCons (tCB (rTupS K) (tCons (tVar 10) tNil)) (tNil)))))) (tTest (tOp (rNeD K) (tCall (spP C 2 G_turned_web) [] E0 (tCons (tVar 9) (tCons (tVar 8) (tNil)))) (tVar 1)))) (tRet (tC (.bl false))) (tNext)) (tSeq (tIfS (tOr (tTest (tOp (rNeD K) (tCall (spP C 1 G_odd_triples) [] E0 (tCons (tVar 1) (tNil))) (tCall (spP C 1 G__law_odd_triples) [] E0 (tCons (tVar 1) (tNil))))) (tTest (tOp (rNeD K) (tCall (spP C 1 G_odd_triples) [] E0 (tCons (tVar 9) (tNil))) (tCall (spP C 1 G_odd_triples) [] E0 (tCons (tVar 1) (tNil)))))) (tRet (tC (.bl false))) (tNext)) (tSeq (tIfS (tOr (tB (tCall (spP C 2 G_is_switch) [] E0 (tCons (tVar 1) (tCons (tTup (tNil)) (tNil))))) (tOr (tB (tCall (spP C 2 G_is_switch) [] E0 (tCons (tVar 1) (tCons (tCB (rLstS K) (tCons (tVar 3) tNil)) (tNil))))) (tOr (tB (tCall (spP C 2 G_is_switch) [] E0 (tCons (tVar 1) (tCons (tC .non) (tNil))))) (tOr (tB (tCall (spP C 2 G_is_switch) [] E0 (tCons (tVar 1) (tCons (tTup (tCons (tOp (rIx K) (tVar 1) (tC (.int 0))) (tNil))) (tNil))))) (tB (tCall (spP C 2 G_is_switch) [] E0 (tCons (tVar 1) (tCons (tOp (rAddX K) (tVar 3) (tSl (rSlX K) (tVar 3) tNoPart (tPart (tC (.int 1))))) (tNil))))))))) (tRet (tC (.bl false))) (tNext)) (tSeq (tAsg (tCall (spD 1 G__law_bad_web) [] E0 (tCons (tVar 0) (tNil))) (gName 11)) (tSeq (tAsg (tLst (tCons (LamX.tLam TabOf.T (LamX.TTref K C) fun E => tCall (spP C 2 G_is_switch) [] E (tCons (tVar 11) (tCons (tTup (tNil)) (tNil)))) (tCons (LamX.tLam TabOf.T (LamX.TTref K C) fun E => tCall (spP C 2 G_switched) [] E (tCons (tVar 1) (tCons (tC .non) (tNil)))) (tCons (LamX.tLam TabOf.T (LamX.TTref K C) fun E => tCall (spP C 2 G_turned_web) [] E (tCons (tVar 1) (tCons (tTup (tCons (tC (.int 1)) (tCons (tC (.int 0)) (tCons (tC (.int 1)) (tNil))))) (tNil)))) (tCons (LamX.tLam TabOf.T (LamX.TTref K C) fun E => tCall (spP C 2 G_turned_web) [] E (tCons (tVar 11) (tCons (tTup (tNil)) (tNil)))) (tCons (LamX.tLam TabOf.T (LamX.TTref K C) fun E => tCall (spP C 1 G_odd_triples) [] E (tCons (tVar 11) (tNil))) (tCons (LamX.tLam TabOf.T (LamX.TTref K C) fun E => tCall (spP C 2 G_switches) [] E (tCons (tCall (spP C 1 G_ring_web) [] E0 (tCons (tC (.int 5)) (tNil))) (tCons (tC (.int 5)) (tNil)))) (tCons (LamX.tLam TabOf.T (LamX.TTref K C) fun E => tCall (spP C 2 G_switches) [] E (tCons (tCall (spP C 1 G_ring_web) [] E0 (tCons (tC (.int 5)) (tNil))) (tCons (tC (.bl true)) (tNil)))) (tNil))))))))) (gName 12)) (tRet (tOp (rEqD K) (tVar 12) (tLst (tCons (tC (.str "web")) (tCons (tC (.str "places")) (tCons (tC (.str "places")) (tCons (tC (.str "web")) (tCons (tC (.str "web")) (tCons (tC (.str "size")) (tCons (tC (.str "size")) (tNil))))))))))))))))))))))))))
def F__law_right : FS := sSeq (sAsg (fCallD 0 G__law_made (fNil)) (tgT [1, 2])) (sSeq (sIf (fB (fOp gEq (fCallD 0 G__law_roll (fCons (fC (.int 3)) (fNil))) (fC (.int 0)))) (sAsg (fCallD 0 G__law_some_web (fCons (fC (.int 7)) (fNil))) (tgN 1)) (sNext)) (sSeq (sAsg (fIf (fAnd (fB (fCall G__law_is_own_switch (fCons (fVar 1) (fCons (fLc (fSeq (fVar 2)) (tgN 16) (fB (fOp gLt (fVar 16) (fOp gIx (fVar 1) (fC (.int 0))))) (fVar 16) [16]) (fNil))))) (fB (fOp gLt (fUn gMax (fVar 2)) (fOp gIx (fVar 1) (fC (.int 0)))))) (fVar 2) (fUn gTuple (fUn gSorted (fSl (fCallD 0 G__law_shuffled (fCons (fOp gIx (fVar 1) (fC (.int 0))) (fNil))) fNoPart (fPart (fOp gAdd (fC (.int 1)) (fCallD 0 G__law_roll (fCons (fOp gIx (fVar 1) (fC (.int 0))) (fNil))))))))) (tgN 3)) (sSeq (sAsg (fCall G__law_is_own_switch (fCons (fVar 1) (fCons (fVar 3) (fNil)))) (tgN 4)) (sSeq (sIf (fB (fOp gNe (fCall G_is_switch (fCons (fVar 1) (fCons (fVar 3) (fNil)))) (fVar 4))) (sRet (fC (.bool false))) (sNext)) (sSeq (sIf (fB (fVar 4)) (sSeq (sAsg (fCall G_switched (fCons (fVar 1) (fCons (fVar 3) (fNil)))) (tgN 5)) (sSeq (sIf (fOr (fB (fOp gNe (fVar 5) (fCall G__law_own_switched (fCons (fVar 1) (fCons (fVar 3) (fNil)))))) (fOr (fB (fOp gNe (fCall G_polynomial (fCons (fVar 5) (fNil))) (fCall G_polynomial (fCons (fVar 1) (fNil))))) (fB (fOp gNe (fCall G_switched (fCons (fVar 5) (fCons (fVar 3) (fNil)))) (fVar 1))))) (sRet (fC (.bool false))) (sNext)) (sFor (fRg2 (fCons (fC (.int 2)) (fCons (fC (.int 6)) (fNil)))) (tgN 6) (sIf (fB (fOp gNe (fCall G_closed_walks (fCons (fVar 5) (fCons (fVar 6) (fNil)))) (fCall G_closed_walks (fCons (fVar 1) (fCons (fVar 6) (fNil)))))) (sRet (fC (.bool false))) (sNext))))) (sIf (fB (fOp gNe (fRef G_switched (fCons (fVar 1) (fCons (fVar 3) (fNil)))) (fC (.str "places")))) (sRet (fC (.bool false))) (sNext))) (sSeq (sAsg (fOp gAdd (fC (.int 1)) (fCallD 0 G__law_roll (fCons (fC (.int 4)) (fNil)))) (tgN 7)) (sSeq (sIf (fB (fOp gNe (fCall G_switches (fCons (fVar 1) (fCons (fVar 7) (fNil)))) (fUn gTuple (fLc (fSeq (fCall G__law_some (fCons (fOp gIx (fVar 1) (fC (.int 0))) (fCons (fVar 7) (fNil))))) (tgN 8) (fB (fCall G__law_is_own_switch (fCons (fVar 1) (fCons (fVar 8) (fNil))))) (fVar 8) [8])))) (sRet (fC (.bool false))) (sNext)) (sSeq (sAsg (fUn gTuple (fLc (fRg1 (fOp gIx (fVar 1) (fC (.int 0)))) (tgN 15) (fB (fOp gEq (fCallD 0 G__law_roll (fCons (fC (.int 2)) (fNil))) (fC (.int 0)))) (fVar 15) [15])) (tgN 8)) (sSeq (sAsg (fCall G_turned_web (fCons (fVar 1) (fCons (fVar 8) (fNil)))) (tgN 9)) (sSeq (sAsg (fLc (fSeq (fCall G__law_some (fCons (fOp gIx (fVar 1) (fC (.int 0))) (fCons (fC (.int 2)) (fNil))))) (tgT [13, 14]) (fB (fOp gNe (fOp (gIn false) (fTup (fCons (fVar 13) (fCons (fVar 14) (fNil)))) (fOp gIx (fVar 1) (fC (.int 1)))) (fOp gNe (fOp (gIn false) (fVar 13) (fVar 8)) (fOp (gIn false) (fVar 14) (fVar 8))))) (fTup (fCons (fVar 13) (fCons (fVar 14) (fNil)))) [13, 14]) (tgN 10)) (sSeq (sIf (fOr (fB (fOp gNe (fVar 9) (fTup (fCons (fOp gIx (fVar 1) (fC (.int 0))) (fCons (fUn gTuple (fVar 10)) (fNil)))))) (fB (fOp gNe (fCall G_turned_web (fCons (fVar 9) (fCons (fVar 8) (fNil)))) (fVar 1)))) (sRet (fC (.bool false))) (sNext)) (sSeq (sIf (fOr (fB (fOp gNe (fCall G_odd_triples (fCons (fVar 1) (fNil))) (fCall G__law_odd_triples (fCons (fVar 1) (fNil))))) (fB (fOp gNe (fCall G_odd_triples (fCons (fVar 9) (fNil))) (fCall G_odd_triples (fCons (fVar 1) (fNil)))))) (sRet (fC (.bool false))) (sNext)) (sSeq (sIf (fOr (fB (fCall G_is_switch (fCons (fVar 1) (fCons (fTup (fNil)) (fNil))))) (fOr (fB (fCall G_is_switch (fCons (fVar 1) (fCons (fUn gList (fVar 3)) (fNil))))) (fOr (fB (fCall G_is_switch (fCons (fVar 1) (fCons (fC .none) (fNil))))) (fOr (fB (fCall G_is_switch (fCons (fVar 1) (fCons (fTup (fCons (fOp gIx (fVar 1) (fC (.int 0))) (fNil))) (fNil))))) (fB (fCall G_is_switch (fCons (fVar 1) (fCons (fOp gAdd (fVar 3) (fSl (fVar 3) fNoPart (fPart (fC (.int 1))))) (fNil))))))))) (sRet (fC (.bool false))) (sNext)) (sSeq (sAsg (fCallD 0 G__law_bad_web (fNil)) (tgN 11)) (sSeq (sAsg (fLst (fCons (fRef G_is_switch (fCons (fVar 11) (fCons (fTup (fNil)) (fNil)))) (fCons (fRef G_switched (fCons (fVar 1) (fCons (fC .none) (fNil)))) (fCons (fRef G_turned_web (fCons (fVar 1) (fCons (fTup (fCons (fC (.int 1)) (fCons (fC (.int 0)) (fCons (fC (.int 1)) (fNil))))) (fNil)))) (fCons (fRef G_turned_web (fCons (fVar 11) (fCons (fTup (fNil)) (fNil)))) (fCons (fRef G_odd_triples (fCons (fVar 11) (fNil))) (fCons (fRef G_switches (fCons (fCall G_ring_web (fCons (fC (.int 5)) (fNil))) (fCons (fC (.int 5)) (fNil)))) (fCons (fRef G_switches (fCons (fCall G_ring_web (fCons (fC (.int 5)) (fNil))) (fCons (fC (.bool true)) (fNil)))) (fNil))))))))) (tgN 12)) (sRet (fOp gEq (fVar 12) (fLst (fCons (fC (.str "web")) (fCons (fC (.str "places")) (fCons (fC (.str "places")) (fCons (fC (.str "web")) (fCons (fC (.str "web")) (fCons (fC (.str "size")) (fCons (fC (.str "size")) (fNil))))))))))))))))))))))))))
def G__law_right := runD 17 1 F__law_right
theorem sc__law_right : FnScope N__law_right ["dice"] (defScope (top 47)) := ⟨rfl, rfl, rfl, by decide +kernel, rfl, by decide +kernel, by decide +kernel⟩
theorem e__law_right [TabOf] {K : PySem.W.Frag} {C : Addr} (E : XK) : EvS false C E (t__law_right K C E) F__law_right := s_seq (s_asg (ev_callD (ea_nil) (len_nil)) (eg_tup (egs_cons (egs_cons (egs_nil))))) (s_seq (s_if (eb_test (ev_op (ev_callD (ea_cons (ev_cI 3) (ea_nil)) (len_cons (len_nil))) ((ev_cI 0).t) rd_eqD)) (s_asg (ev_callD (ea_cons (ev_cI 7) (ea_nil)) (len_cons (len_nil))) eg_name) (s_next)) (s_seq (s_asg (ev_if (eb_and (eb_val (ev_call (ea_cons (ev_var) (ea_cons ((ef_lc (ei_seq (ev_var)) (eg_name) (eb_test (ev_op (ev_var) ((ev_op (ev_var) ((ev_cI 0).t) rd_ix).t) rd_lt)) (ev_var)).ev) (ea_nil))) (len_cons (len_cons (len_nil))))) (eb_test (ev_op (ev_call1 ((ev_var).t) rd_max) ((ev_op (ev_var) ((ev_cI 0).t) rd_ix).t) rd_lt))) (ev_var) (ev_call1 ((ev_call1 ((ev_sl (ev_callD (ea_cons (ev_op (ev_var) ((ev_cI 0).t) rd_ix) (ea_nil)) (len_cons (len_nil))) eo_none (eo_some (ev_op (ev_cI 1) ((ev_callD (ea_cons (ev_op (ev_var) ((ev_cI 0).t) rd_ix) (ea_nil)) (len_cons (len_nil))).t) rd_add))).t) rd_sorted).t) rd_tuple)) eg_name) (s_seq (s_asg (ev_call (ea_cons (ev_var) (ea_cons (ev_var) (ea_nil))) (len_cons (len_cons (len_nil)))) eg_name) (s_seq (s_if (eb_test (ev_op (ev_call (ea_cons (ev_var) (ea_cons (ev_var) (ea_nil))) (len_cons (len_cons (len_nil)))) ((ev_var).t) rd_neD)) (s_ret (ev_cB false)) (s_next)) (s_seq (s_if (eb_val (ev_var)) (s_seq (s_asg (ev_call (ea_cons (ev_var) (ea_cons (ev_var) (ea_nil))) (len_cons (len_cons (len_nil)))) eg_name) (s_seq (s_if (eb_or (eb_test (ev_op (ev_var) ((ev_call (ea_cons (ev_var) (ea_cons (ev_var) (ea_nil))) (len_cons (len_cons (len_nil)))).t) rd_neD)) (eb_or (eb_test (ev_op (ev_call (ea_cons (ev_var) (ea_nil)) (len_cons (len_nil))) ((ev_call (ea_cons (ev_var) (ea_nil)) (len_cons (len_nil))).t) rd_neD)) (eb_test (ev_op (ev_call (ea_cons (ev_var) (ea_cons (ev_var) (ea_nil))) (len_cons (len_cons (len_nil)))) ((ev_var).t) rd_neD)))) (s_ret (ev_cB false)) (s_next)) (s_for (ei_rg2 (ea_cons (ev_cI 2) (ea_cons (ev_cI 6) (ea_nil)))) (eg_name) (s_if (eb_test (ev_op (ev_call (ea_cons (ev_var) (ea_cons (ev_var) (ea_nil))) (len_cons (len_cons (len_nil)))) ((ev_call (ea_cons (ev_var) (ea_cons (ev_var) (ea_nil))) (len_cons (len_cons (len_nil)))).t) rd_neD)) (s_ret (ev_cB false)) (s_next))))) (s_if (eb_test (ev_op (ev_ref (ea_cons (ev_var) (ea_cons (ev_var) (ea_nil))) (len_cons (len_cons (len_nil)))) ((ev_cS "places").t) rd_neD)) (s_ret (ev_cB false)) (s_next))) (s_seq (s_asg (ev_op (ev_cI 1) ((ev_callD (ea_cons (ev_cI 4) (ea_nil)) (len_cons (len_nil))).t) rd_add) eg_name) (s_seq (s_if (eb_test (ev_op (ev_call (ea_cons (ev_var) (ea_cons (ev_var) (ea_nil))) (len_cons (len_cons (len_nil)))) ((ev_call1 (((ef_lc (ei_seq (ev_call (ea_cons (ev_op (ev_var) ((ev_cI 0).t) rd_ix) (ea_cons (ev_var) (ea_nil))) (len_cons (len_cons (len_nil))))) (eg_name) (eb_val (ev_call (ea_cons (ev_var) (ea_cons (ev_var) (ea_nil))) (len_cons (len_cons (len_nil))))) (ev_var)).ev).t) rd_tuple).t) rd_neD)) (s_ret (ev_cB false)) (s_next)) (s_seq (s_asg (ev_call1 (((ef_lc (ei_rg1 (ev_op (ev_var) ((ev_cI 0).t) rd_ix)) (eg_name) (eb_test (ev_op (ev_callD (ea_cons (ev_cI 2) (ea_nil)) (len_cons (len_nil))) ((ev_cI 0).t) rd_eqD)) (ev_var)).ev).t) rd_tuple) eg_name) (s_seq (s_asg (ev_call (ea_cons (ev_var) (ea_cons (ev_var) (ea_nil))) (len_cons (len_cons (len_nil)))) eg_name) (s_seq (s_asg ((ef_lc (ei_seq (ev_call (ea_cons (ev_op (ev_var) ((ev_cI 0).t) rd_ix) (ea_cons (ev_cI 2) (ea_nil))) (len_cons (len_cons (len_nil))))) (eg_tup (egs_cons (egs_cons (egs_nil)))) (eb_test (ev_op (ev_op (ev_tup (ea_cons (ev_var) (ea_cons (ev_var) (ea_nil))) (len_cons (len_cons (len_nil)))) ((ev_op (ev_var) ((ev_cI 1).t) rd_ix).t) rd_in) ((ev_op (ev_op (ev_var) ((ev_var).t) rd_in) ((ev_op (ev_var) ((ev_var).t) rd_in).t) rd_neD).t) rd_neD)) (ev_tup (ea_cons (ev_var) (ea_cons (ev_var) (ea_nil))) (len_cons (len_cons (len_nil))))).ev) eg_name) (s_seq (s_if (eb_or (eb_test (ev_op (ev_var) ((ev_tup (ea_cons (ev_op (ev_var) ((ev_cI 0).t) rd_ix) (ea_cons (ev_call1 ((ev_var).t) rd_tuple) (ea_nil))) (len_cons (len_cons (len_nil)))).t) rd_neD)) (eb_test (ev_op (ev_call (ea_cons (ev_var) (ea_cons (ev_var) (ea_nil))) (len_cons (len_cons (len_nil)))) ((ev_var).t) rd_neD))) (s_ret (ev_cB false)) (s_next)) (s_seq (s_if (eb_or (eb_test (ev_op (ev_call (ea_cons (ev_var) (ea_nil)) (len_cons (len_nil))) ((ev_call (ea_cons (ev_var) (ea_nil)) (len_cons (len_nil))).t) rd_neD)) (eb_test (ev_op (ev_call (ea_cons (ev_var) (ea_nil)) (len_cons (len_nil))) ((ev_call (ea_cons (ev_var) (ea_nil)) (len_cons (len_nil))).t) rd_neD))) (s_ret (ev_cB false)) (s_next)) (s_seq (s_if (eb_or (eb_val (ev_call (ea_cons (ev_var) (ea_cons (ev_tup (ea_nil) (len_nil)) (ea_nil))) (len_cons (len_cons (len_nil))))) (eb_or (eb_val (ev_call (ea_cons (ev_var) (ea_cons (ev_call1 ((ev_var).t) rd_list) (ea_nil))) (len_cons (len_cons (len_nil))))) (eb_or (eb_val (ev_call (ea_cons (ev_var) (ea_cons (ev_cN) (ea_nil))) (len_cons (len_cons (len_nil))))) (eb_or (eb_val (ev_call (ea_cons (ev_var) (ea_cons (ev_tup (ea_cons (ev_op (ev_var) ((ev_cI 0).t) rd_ix) (ea_nil)) (len_cons (len_nil))) (ea_nil))) (len_cons (len_cons (len_nil))))) (eb_val (ev_call (ea_cons (ev_var) (ea_cons (ev_op (ev_var) ((ev_sl (ev_var) eo_none (eo_some (ev_cI 1))).t) rd_add) (ea_nil))) (len_cons (len_cons (len_nil))))))))) (s_ret (ev_cB false)) (s_next)) (s_seq (s_asg (ev_callD (ea_nil) (len_nil)) eg_name) (s_seq (s_asg (ev_lst (ea_cons (ev_ref (ea_cons (ev_var) (ea_cons (ev_tup (ea_nil) (len_nil)) (ea_nil))) (len_cons (len_cons (len_nil)))) (ea_cons (ev_ref (ea_cons (ev_var) (ea_cons (ev_cN) (ea_nil))) (len_cons (len_cons (len_nil)))) (ea_cons (ev_ref (ea_cons (ev_var) (ea_cons (ev_tup (ea_cons (ev_cI 1) (ea_cons (ev_cI 0) (ea_cons (ev_cI 1) (ea_nil)))) (len_cons (len_cons (len_cons (len_nil))))) (ea_nil))) (len_cons (len_cons (len_nil)))) (ea_cons (ev_ref (ea_cons (ev_var) (ea_cons (ev_tup (ea_nil) (len_nil)) (ea_nil))) (len_cons (len_cons (len_nil)))) (ea_cons (ev_ref (ea_cons (ev_var) (ea_nil)) (len_cons (len_nil))) (ea_cons (ev_ref (ea_cons (ev_call (ea_cons (ev_cI 5) (ea_nil)) (len_cons (len_nil))) (ea_cons (ev_cI 5) (ea_nil))) (len_cons (len_cons (len_nil)))) (ea_cons (ev_ref (ea_cons (ev_call (ea_cons (ev_cI 5) (ea_nil)) (len_cons (len_nil))) (ea_cons (ev_cB true) (ea_nil))) (len_cons (len_cons (len_nil)))) (ea_nil)))))))) (len_cons (len_cons (len_cons (len_cons (len_cons (len_cons (len_cons (len_nil))))))))) eg_name) (s_ret (ev_op (ev_var) ((ev_lst (ea_cons (ev_cS "web") (ea_cons (ev_cS "places") (ea_cons (ev_cS "places") (ea_cons (ev_cS "web") (ea_cons (ev_cS "web") (ea_cons (ev_cS "size") (ea_cons (ev_cS "size") (ea_nil)))))))) (len_cons (len_cons (len_cons (len_cons (len_cons (len_cons (len_cons (len_nil))))))))).t) rd_eqD)))))))))))))))))
theorem w__law_right [TabOf] {P : Program} {w : World} {K : PySem.W.Frag} {mg : PySem.Str → Option Value} {base : Heap} {C fI : Addr} (T : Tx P K mg base C fI) : Wk P w K mg base 9 "_law_right" (top 47) ["dice"] (spD 1 G__law_right) := by
  have w__law_made := w__law_made (w := w) T
  have w__law_roll := w__law_roll (w := w) T
  have w__law_some_web := w__law_some_web (w := w) T
  have w__law_is_own_switch := w__law_is_own_switch (w := w) T
  have w__law_shuffled := w__law_shuffled (w := w) T
  have w_is_switch := w_is_switch (w := w) T
  have w_switched := w_switched (w := w) T
  have w__law_own_switched := w__law_own_switched (w := w) T
  have w_polynomial := w_polynomial (w := w) T
  have w_closed_walks := w_closed_walks (w := w) T
  have w_switches := w_switches (w := w) T
  have w__law_some := w__law_some (w := w) T
  have w_turned_web := w_turned_web (w := w) T
  have w_odd_triples := w_odd_triples (w := w) T
  have w__law_odd_triples := w__law_odd_triples (w := w) T
  have w__law_bad_web := w__law_bad_web (w := w) T
  have w_ring_web := w_ring_web (w := w) T
  refine wk_D (C := C) T.a__law_right sc__law_right rfl (by decide) (fun _ _ _ _ _ _ us hl => match us, hl with | [_], _ => rfl) (t__law_right K C) e__law_right (fun f cdv hcv A outer s H E hr => ?_)
  exact pss_cons (ps_asg (pe_w w__law_made hr passL (pa_cons (pv 0) (pa_nil))) (pg_tup (by rfl) (pgs_cons (pg_name (i := 1) sc__law_right.nd (by rfl) (Or.inr (by rfl))) (pgs_cons (pg_name (i := 2) sc__law_right.nd (by rfl) (Or.inl (by rfl))) (pgs_nil))))) (pss_cons (ps_if (pt_cmpR (op_eqD hr.units) (pe_w w__law_roll hr passL (pa_cons (pv 0) (pa_cons (pe_int) (pa_nil)))) (pe_int) (nomark _)) (pss_one (ps_set (i := 1) sc__law_right.nd (by rfl) (Or.inr (by rfl)) (pe_w w__law_some_web hr passL (pa_cons (pv 0) (pa_cons (pe_int) (pa_nil)))))) (pss_nil)) (pss_cons (ps_set (i := 3) sc__law_right.nd (by rfl) (Or.inr (by rfl)) (pe_ifExp ((pw_and (pt_val (pe_w w__law_is_own_switch hr passL (pa_cons (pv 1) (pa_cons (pe_lc (own := [("at", 16)]) (g := gName 16) (tt := tTest (tOp (rLtX K) (tVar 16) (tOp (rIx K) (tVar 1) (tC (.int 0))))) (te := tVar 16) (wi := iSeq K (tVar 2)) (by rfl) sc__law_right.nd (pi_seq (pv 2)) (blkOk_by (by first | rfl | kernel_rfl)) (fun _ _ _ _ _ => pg_name (i := 16) sc__law_right.nd (by rfl) (Or.inl (by rfl))) (fun _ _ _ _ _ => pts_one (pt_cmpR (op_ltX hr.units0) (pv 16) (pe_ix ix_seq (pv 1) (pe_int) (fun _ _ => rfl)) (nomark _))) (fun _ _ _ _ _ => pv 16)) (pa_nil))))) (pw_and1 (pt_cmpR (op_ltX hr.units0) (pe_callB (cr_maxX (by rfl) hr.units) (by rfl) T.b_max (by first | rfl | decide +kernel) (pa_cons (pv 2) pa_nil)) (pe_ix ix_seq (pv 1) (pe_int) (fun _ _ => rfl)) (nomark _)))).pt) (pv 2) (pe_callTy call_tuple_of (by rfl) T.b_tuple (by first | rfl | decide +kernel) (pa_cons (pe_callB (cr_sortX hr.units) (by rfl) T.b_sorted (by first | rfl | decide +kernel) (pa_cons (pe_slice sl_X (pe_w w__law_shuffled hr passL (pa_cons (pv 0) (pa_cons (pe_ix ix_seq (pv 1) (pe_int) (fun _ _ => rfl)) (pa_nil)))) po_none (po_some (pe_op op_addX (pe_int) (pe_w w__law_roll hr passL (pa_cons (pv 0) (pa_cons (pe_ix ix_seq (pv 1) (pe_int) (fun _ _ => rfl)) (pa_nil))))))) pa_nil)) pa_nil)))) (pss_cons (ps_set (i := 4) sc__law_right.nd (by rfl) (Or.inl (by rfl)) (pe_w w__law_is_own_switch hr passL (pa_cons (pv 1) (pa_cons (pv 3) (pa_nil))))) (pss_cons (ps_if (pt_cmpR (op_neD hr.units) (pe_wK (ks := ["web", "value"]) w_is_switch hr passL (pk_cons (pv 1) (pk_cons (pv 3) (pk_nil))) rfl (fun _ _ _ _ _ _ us hl => match us, hl with | [_, _], _ => rfl)) (pv 4) (nomark _)) (pss_one (ps_ret (pe_bl))) (pss_nil)) (pss_cons (ps_if (pt_val (pv 4)) (pss_cons (ps_set (i := 5) sc__law_right.nd (by rfl) (Or.inl (by rfl)) (pe_wK (ks := ["web", "places"]) w_switched hr passL (pk_cons (pv 1) (pk_cons (pv 3) (pk_nil))) rfl (fun _ _ _ _ _ _ us hl => match us, hl with | [_, _], _ => rfl))) (pss_cons (ps_if ((pw_or (pt_cmpR (op_neD hr.units) (pv 5) (pe_w w__law_own_switched hr passL (pa_cons (pv 1) (pa_cons (pv 3) (pa_nil)))) (nomark _)) (pw_or (pt_cmpR (op_neD hr.units) (pe_w w_polynomial hr passL (pa_cons (pv 5) (pa_nil))) (pe_w w_polynomial hr passL (pa_cons (pv 1) (pa_nil))) (nomark _)) (pw_or1 (pt_cmpR (op_neD hr.units) (pe_w w_switched hr passL (pa_cons (pv 5) (pa_cons (pv 3) (pa_nil)))) (pv 1) (nomark _))))).pt) (pss_one (ps_ret (pe_bl))) (pss_nil)) (pss_one (ps_for (passes_of (by rfl)) (by rfl) (pi_range2 (by rfl) T.b_range (pa_cons (pe_int) (pa_cons (pe_int) (pa_nil)))) (pg_name (i := 6) sc__law_right.nd (by rfl) (Or.inl (by rfl))) (pss_one (ps_if (pt_cmpR (op_neD hr.units) (pe_w w_closed_walks hr passL (pa_cons (pv 5) (pa_cons (pv 6) (pa_nil)))) (pe_w w_closed_walks hr passL (pa_cons (pv 1) (pa_cons (pv 6) (pa_nil)))) (nomark _)) (pss_one (ps_ret (pe_bl))) (pss_nil))))))) (pss_one (ps_if (pt_cmpR (op_neD hr.units) (pe_ref T.bad T.a__law_refused T.tb__law_right hcv T.tm__law_right T.tu__law_right hr (LamX.lamS_by (by first | rfl | kernel_rfl)) (fun A outer s H E f c' hr => pe_w w_switched hr (passes_call (takes_of (by rfl) (by rfl) (by rfl) (by rfl)) (fun _ _ _ _ h => h)) (pa_cons (pv 1) (pa_cons (pv 3) (pa_nil))))) (pe_str) (nomark _)) (pss_one (ps_ret (pe_bl))) (pss_nil)))) (pss_cons (ps_set (i := 7) sc__law_right.nd (by rfl) (Or.inl (by rfl)) (pe_op op_addX (pe_int) (pe_w w__law_roll hr passL (pa_cons (pv 0) (pa_cons (pe_int) (pa_nil)))))) (pss_cons (ps_if (pt_cmpR (op_neD hr.units) (pe_wK (ks := ["web", "size"]) w_switches hr passL (pk_cons (pv 1) (pk_cons (pv 7) (pk_nil))) rfl (fun _ _ _ _ _ _ us hl => match us, hl with | [_, _], _ => rfl)) (pe_callTy call_tuple_of (by rfl) T.b_tuple (by first | rfl | decide +kernel) (pa_cons (pe_lc (own := [("some", 8)]) (g := gName 8) (tt := tB (tCall (spP C 2 G__law_is_own_switch) [] E0 (tCons (tVar 1) (tCons (tVar 8) (tNil))))) (te := tVar 8) (wi := iSeq K (tCall (spP C 2 G__law_some) [] E0 (tCons (tOp (rIx K) (tVar 1) (tC (.int 0))) (tCons (tVar 7) (tNil))))) (by rfl) sc__law_right.nd (pi_seq (pe_w w__law_some hr passL (pa_cons (pe_ix ix_seq (pv 1) (pe_int) (fun _ _ => rfl)) (pa_cons (pv 7) (pa_nil))))) (blkOk_by (by first | rfl | kernel_rfl)) (fun _ _ _ _ _ => pg_name (i := 8) sc__law_right.nd (by rfl) (Or.inl (by rfl))) (fun _ _ _ _ _ => pts_one (pt_val (pe_w w__law_is_own_switch hr passL (pa_cons (pv 1) (pa_cons (pv 8) (pa_nil)))))) (fun _ _ _ _ _ => pv 8)) pa_nil)) (nomark _)) (pss_one (ps_ret (pe_bl))) (pss_nil)) (pss_cons (ps_set (i := 8) sc__law_right.nd (by rfl) (Or.inr (by rfl)) (pe_callTy call_tuple_of (by rfl) T.b_tuple (by first | rfl | decide +kernel) (pa_cons (pe_lc (own := [("place", 15)]) (g := gName 15) (tt := tTest (tOp (rEqD K) (tCall (spD 2 G__law_roll) [] E0 (tCons (tVar 0) (tCons (tC (.int 2)) (tNil)))) (tC (.int 0)))) (te := tVar 15) (wi := iRng1 (tCons (tOp (rIx K) (tVar 1) (tC (.int 0))) tNil)) (by rfl) sc__law_right.nd (pi_range1 (by rfl) T.b_range (pa_cons (pe_ix ix_seq (pv 1) (pe_int) (fun _ _ => rfl)) pa_nil)) (blkOk_by (by first | rfl | kernel_rfl)) (fun _ _ _ _ _ => pg_name (i := 15) sc__law_right.nd (by rfl) (Or.inl (by rfl))) (fun _ _ _ _ _ => pts_one (pt_cmpR (op_eqD hr.units) (pe_w w__law_roll hr passL (pa_cons (pv 0) (pa_cons (pe_int) (pa_nil)))) (pe_int) (nomark _))) (fun _ _ _ _ _ => pv 15)) pa_nil))) (pss_cons (ps_set (i := 9) sc__law_right.nd (by rfl) (Or.inl (by rfl)) (pe_wK (ks := ["web", "places"]) w_turned_web hr passL (pk_cons (pv 1) (pk_cons (pv 8) (pk_nil))) rfl (fun _ _ _ _ _ _ us hl => match us, hl with | [_, _], _ => rfl))) (pss_cons (ps_setLc (i := 10) (own := [("one", 13), ("other", 14)]) (g := gTup K 2 (gCons (gName 13) (gCons (gName 14) (gNil)))) (tt := tTest (tOp (rNeD K) (tOp (rInX K false) (tTup (tCons (tVar 13) (tCons (tVar 14) (tNil)))) (tOp (rIx K) (tVar 1) (tC (.int 1)))) (tOp (rNeD K) (tOp (rInX K false) (tVar 13) (tVar 8)) (tOp (rInX K false) (tVar 14) (tVar 8))))) (te := tTup (tCons (tVar 13) (tCons (tVar 14) (tNil)))) (wi := iSeq K (tCall (spP C 2 G__law_some) [] E0 (tCons (tOp (rIx K) (tVar 1) (tC (.int 0))) (tCons (tC (.int 2)) (tNil))))) (by rfl) sc__law_right.nd (by rfl) (by rfl) (sw_true (by rfl) (by rfl) (by rfl) (by first | rfl | kernel_rfl)) (pi_seq (pe_w w__law_some hr passL (pa_cons (pe_ix ix_seq (pv 1) (pe_int) (fun _ _ => rfl)) (pa_cons (pe_int) (pa_nil))))) (blkOk_by (by first | rfl | kernel_rfl)) (fun _ _ _ _ _ => pg_tup (by rfl) (pgs_cons (pg_name (i := 13) sc__law_right.nd (by rfl) (Or.inl (by rfl))) (pgs_cons (pg_name (i := 14) sc__law_right.nd (by rfl) (Or.inl (by rfl))) (pgs_nil)))) (fun _ _ _ _ _ => pts_one (pt_cmpR (op_neD hr.units) (pe_cmpR (op_inX (Room.u65 hr)) (pe_tup (pa_cons (pv 13) (pa_cons (pv 14) (pa_nil)))) (pe_ix ix_seq (pv 1) (pe_int) (fun _ _ => rfl)) (by rfl)) (pe_cmpR (op_neD hr.units) (pe_cmpR (op_inX (Room.u65 hr)) (pv 13) (pv 8) (by rfl)) (pe_cmpR (op_inX (Room.u65 hr)) (pv 14) (pv 8) (by rfl)) (nomark _)) (nomark _))) (fun _ _ _ _ _ => pe_tup (pa_cons (pv 13) (pa_cons (pv 14) (pa_nil))))) (pss_cons (ps_if ((pw_or (pt_cmpR (op_neD hr.units) (pv 9) (pe_tup (pa_cons (pe_ix ix_seq (pv 1) (pe_int) (fun _ _ => rfl)) (pa_cons (pe_callTy call_tuple_of (by rfl) T.b_tuple (by first | rfl | decide +kernel) (pa_cons (pv 10) pa_nil)) (pa_nil)))) (nomark _)) (pw_or1 (pt_cmpR (op_neD hr.units) (pe_w w_turned_web hr passL (pa_cons (pv 9) (pa_cons (pv 8) (pa_nil)))) (pv 1) (nomark _)))).pt) (pss_one (ps_ret (pe_bl))) (pss_nil)) (pss_cons (ps_if ((pw_or (pt_cmpR (op_neD hr.units) (pe_wK (ks := ["web"]) w_odd_triples hr passL (pk_cons (pv 1) (pk_nil)) rfl (fun _ _ _ _ _ _ us hl => match us, hl with | [_], _ => rfl)) (pe_w w__law_odd_triples hr passL (pa_cons (pv 1) (pa_nil))) (nomark _)) (pw_or1 (pt_cmpR (op_neD hr.units) (pe_w w_odd_triples hr passL (pa_cons (pv 9) (pa_nil))) (pe_w w_odd_triples hr passL (pa_cons (pv 1) (pa_nil))) (nomark _)))).pt) (pss_one (ps_ret (pe_bl))) (pss_nil)) (pss_cons (ps_if ((pw_or (pt_val (pe_w w_is_switch hr passL (pa_cons (pv 1) (pa_cons (pe_tup (pa_nil)) (pa_nil))))) (pw_or (pt_val (pe_w w_is_switch hr passL (pa_cons (pv 1) (pa_cons (pe_callTy call_list_of (by rfl) T.b_list (by first | rfl | decide +kernel) (pa_cons (pv 3) pa_nil)) (pa_nil))))) (pw_or (pt_val (pe_w w_is_switch hr passL (pa_cons (pv 1) (pa_cons (pe_non) (pa_nil))))) (pw_or (pt_val (pe_w w_is_switch hr passL (pa_cons (pv 1) (pa_cons (pe_tup (pa_cons (pe_ix ix_seq (pv 1) (pe_int) (fun _ _ => rfl)) (pa_nil))) (pa_nil))))) (pw_or1 (pt_val (pe_w w_is_switch hr passL (pa_cons (pv 1) (pa_cons (pe_op op_addX (pv 3) (pe_slice sl_X (pv 3) po_none (po_some (pe_int)))) (pa_nil)))))))))).pt) (pss_one (ps_ret (pe_bl))) (pss_nil)) (pss_cons (ps_set (i := 11) sc__law_right.nd (by rfl) (Or.inr (by rfl)) (pe_w w__law_bad_web hr passL (pa_cons (pv 0) (pa_nil)))) (pss_cons (ps_set (i := 12) sc__law_right.nd (by rfl) (Or.inl (by rfl)) (pe_lst (pa_cons (pe_ref T.bad T.a__law_refused T.tb__law_right hcv T.tm__law_right T.tu__law_right hr (LamX.lamS_by (by first | rfl | kernel_rfl)) (fun A outer s H E f c' hr => pe_w w_is_switch hr (passes_call (takes_of (by rfl) (by rfl) (by rfl) (by rfl)) (fun _ _ _ _ h => h)) (pa_cons (pv 11) (pa_cons (pe_tup (pa_nil)) (pa_nil))))) (pa_cons (pe_ref T.bad T.a__law_refused T.tb__law_right hcv T.tm__law_right T.tu__law_right hr (LamX.lamS_by (by first | rfl | kernel_rfl)) (fun A outer s H E f c' hr => pe_w w_switched hr (passes_call (takes_of (by rfl) (by rfl) (by rfl) (by rfl)) (fun _ _ _ _ h => h)) (pa_cons (pv 1) (pa_cons (pe_non) (pa_nil))))) (pa_cons (pe_ref T.bad T.a__law_refused T.tb__law_right hcv T.tm__law_right T.tu__law_right hr (LamX.lamS_by (by first | rfl | kernel_rfl)) (fun A outer s H E f c' hr => pe_w w_turned_web hr (passes_call (takes_of (by rfl) (by rfl) (by rfl) (by rfl)) (fun _ _ _ _ h => h)) (pa_cons (pv 1) (pa_cons (pe_tup (pa_cons (pe_int) (pa_cons (pe_int) (pa_cons (pe_int) (pa_nil))))) (pa_nil))))) (pa_cons (pe_ref T.bad T.a__law_refused T.tb__law_right hcv T.tm__law_right T.tu__law_right hr (LamX.lamS_by (by first | rfl | kernel_rfl)) (fun A outer s H E f c' hr => pe_w w_turned_web hr (passes_call (takes_of (by rfl) (by rfl) (by rfl) (by rfl)) (fun _ _ _ _ h => h)) (pa_cons (pv 11) (pa_cons (pe_tup (pa_nil)) (pa_nil))))) (pa_cons (pe_ref T.bad T.a__law_refused T.tb__law_right hcv T.tm__law_right T.tu__law_right hr (LamX.lamS_by (by first | rfl | kernel_rfl)) (fun A outer s H E f c' hr => pe_w w_odd_triples hr (passes_call (takes_of (by rfl) (by rfl) (by rfl) (by rfl)) (fun _ _ _ _ h => h)) (pa_cons (pv 11) (pa_nil)))) (pa_cons (pe_ref T.bad T.a__law_refused T.tb__law_right hcv T.tm__law_right T.tu__law_right hr (LamX.lamS_by (by first | rfl | kernel_rfl)) (fun A outer s H E f c' hr => pe_w w_switches hr (passes_call (takes_of (by rfl) (by rfl) (by rfl) (by rfl)) (fun _ _ _ _ h => h)) (pa_cons (pe_w w_ring_web hr passL (pa_cons (pe_int) (pa_nil))) (pa_cons (pe_int) (pa_nil))))) (pa_cons (pe_ref T.bad T.a__law_refused T.tb__law_right hcv T.tm__law_right T.tu__law_right hr (LamX.lamS_by (by first | rfl | kernel_rfl)) (fun A outer s H E f c' hr => pe_w w_switches hr (passes_call (takes_of (by rfl) (by rfl) (by rfl) (by rfl)) (fun _ _ _ _ h => h)) (pa_cons (pe_w w_ring_web hr passL (pa_cons (pe_int) (pa_nil))) (pa_cons (pe_bl) (pa_nil))))) (pa_nil)))))))))) (pss_one (ps_ret (pe_cmpR (op_eqD hr.units) (pv 12) (pe_lst (pa_cons (pe_str) (pa_cons (pe_str) (pa_cons (pe_str) (pa_cons (pe_str) (pa_cons (pe_str) (pa_cons (pe_str) (pa_cons (pe_str) (pa_nil))))))))) (nomark _)))))))))))))))))))
end N

set_option Elab.async false
set_option linter.all false
set_option maxRecDepth 100000
set_option maxHeartbeats 4000000
/-! M2: what the webs' defs make. -/
namespace N
open PySem
@[simp] theorem G_is_integer_int (i : Int) : G_is_integer [.int i] = some (.ok (.bool true)) := by rfl
@[simp] theorem G_is_integer_bool (b : Bool) : G_is_integer [.bool b] = some (.ok (.bool false)) := by rfl
/-- a pair of ints as a datum -/
def encP (p : Int × Int) : PyData := .tuple [.int p.1, .int p.2]
def tieB (n : Int) (p : Int × Int) : Bool := decide (0 ≤ p.1) && decide (p.1 < p.2) && decide (p.2 < n)
@[simp] theorem G_is_tie_pair (p : Int × Int) (n : Int) : G_is_tie [encP p, .int n] = some (.ok (.bool (tieB n p))) := by
  unfold G_is_tie runP F_is_tie start0 encP tieB
  simp
  by_cases h1 : 0 ≤ p.1
  · by_cases h2 : p.1 < p.2
    · simp [h1, h2]
    · simp [h1, h2]
  · simp [h1]
/-- a web as a datum -/
abbrev encW (n : Int) (ts : List (Int × Int)) : PyData := .tuple [.int n, .tuple (ts.map encP)]
def ltP (p q : Int × Int) : Bool := decide (p.1 < q.1) || (decide (p.1 = q.1) && decide (p.2 < q.2))
@[simp] theorem gLt_pair (p q : Int × Int) : gLt (encP p) (encP q) = some (.bool (ltP p q)) := by
  unfold encP ltP
  unfold gLt
  simp [intsOf, HT.lexLt]
  by_cases h1 : p.1 = q.1
  · simp [h1]
    by_cases h2 : p.2 = q.2
    · simp [h2]
    · simp [h2]
  · simp [h1]
theorem is_web_ok (n : Int) (ts : List (Int × Int)) (h1 : 1 ≤ n) (h2 : n ≤ 26) (hl : ts.length ≤ 1000) (ht : ∀ t ∈ ts, tieB n t = true) (hs : ts.Pairwise fun p q => ltP p q = true) : G_is_web [encW n ts] = some (.ok (.bool true)) := by
  have hl2 : ts.length ≤ 100000 := by omega
  have e1 : lcGo (tgN 2) fYes (fCall G_is_tie (fCons (fVar 2) (fCons (fOp gIx (fVar 0) (fC (.int 0))) fNil))) [2] (ts.map encP) [.im (encW n ts), .no, .no] = some (ts.map fun t => .bool (tieB n t), [.im (encW n ts), .no, .no]) := by
    refine lcGo_map fun t _ => ?_
    unfold lcStep encW
    simp
  have e2 : lcGo (tgN 1) fYes (fOp gLt (fOp gIx (fOp gIx (fVar 0) (fC (.int 1))) (fOp gSubI (fVar 1) (fC (.int 1)))) (fOp gIx (fOp gIx (fVar 0) (fC (.int 1))) (fVar 1))) [1] (rngD 1 (ts.length - 1)) [.im (encW n ts), .no, .no]
      = some ((List.range' 1 (ts.length - 1)).map fun _ => .bool true, [.im (encW n ts), .no, .no]) := by
    have r := rngD_nat 1 ts.length
    rw [show ((1 : Nat) : Int) = 1 from rfl, show ((ts.length : Int) - 1).toNat = ts.length - 1 by omega] at r
    rw [r]
    refine lcGo_map fun i hi => ?_
    rw [List.mem_range'] at hi
    obtain ⟨k, hk, rfl⟩ := hi
    obtain ⟨j, hj⟩ : ∃ j, j = 1 + 1 * k := ⟨_, rfl⟩
    rw [← hj]
    have a1 : j < ts.length := by omega
    have a2 : ((j : Nat) : Int) - 1 = ((k : Nat) : Int) := by omega
    have lt := List.pairwise_iff_getElem.mp hs k j (by omega) a1 (by omega)
    have g1 : ts[k]? = some ts[k] := List.getElem?_eq_getElem (by omega)
    have g2 : ts[j]? = some ts[j] := List.getElem?_eq_getElem a1
    unfold lcStep
    simp [a2, g1, g2, lt]
  have r1 : rgOk 1 (ts.length : Int) = true := rgOk_small (by omega) (by omega) (by omega) (by omega)
  have all1 : ts.all (tieB n) = true := List.all_eq_true.mpr ht
  unfold G_is_web runP F_is_web start0
  simp [h1, h2, hl2, e1, e2, r1, all1]
theorem need_web_ok (n : Int) (ts : List (Int × Int)) (nm : Str) (m : Int) (h : G_is_web [encW n ts] = some (.ok (.bool true))) (hm : n ≤ m) : G_need_web [encW n ts, .str nm, .int m] = some (.ok .none) := by
  have c : ¬ m < n := by omega
  unfold G_need_web runP F_need_web start0
  simp [h, c]
end N

set_option Elab.async false
set_option linter.all false
set_option maxRecDepth 100000
set_option maxHeartbeats 4000000
/-! M3: bad webs. -/
namespace N
open PySem
def badWebs : List PyData := [.none, .tuple [.int 0, .tuple []], .tuple [.int 27, .tuple []], .tuple [.int 2, .list [.tuple [.int 0, .int 1]]], .tuple [.int 2, .tuple [.tuple [.int 1, .int 0]]], .tuple [.int 2, .tuple [.tuple [.int 0, .int 2]]], .tuple [.int 3, .tuple [.tuple [.int 0, .int 2], .tuple [.int 0, .int 1]]], .tuple [.int 3, .tuple [.tuple [.int 0, .int 1], .tuple [.int 0, .int 1]]], .tuple [.int 2, .tuple [.tuple [.int 0, .int 1, .int 1]]], .tuple [.bool true, .tuple []], .tuple [.int 2, .tuple [.tuple [.bool false, .int 1]]], .tuple [.tuple [.int 0, .int 1]], .int 5]
def isBF (r : Option Res) : Bool := match r with | some (.ok (.bool false)) => true | _ => false
theorem of_isBF {r : Option Res} (h : isBF r = true) : r = some (.ok (.bool false)) := by
  unfold isBF at h
  split at h
  · rfl
  · cases h
theorem bad_all : (badWebs.all fun w => isBF (G_is_web [w])) = true := by decide +kernel
theorem is_web_bad (w : PyData) (h : w ∈ badWebs) : G_is_web [w] = some (.ok (.bool false)) := of_isBF (List.all_eq_true.mp bad_all w h)
theorem sRaise_str {Fe : FE} {en : En} {x : Str} {e2 : En} (h : Fe en = some (.str x, e2)) (hx : x.length ≤ 1000) : sRaise Fe en = some (.ex x e2) := by
  unfold sRaise
  simp [h, hx]
theorem sCallX_ok {G : List PyData → Option Res} {A : FA} {en e2 : En} {ds : List PyData} {d : PyData} (h : A en = some (ds, e2)) (hg : G ds = some (.ok d)) : sCallX G A en = some (.nx e2) := by
  unfold sCallX
  simp [h, hg]
theorem sCallX_bad {G : List PyData → Option Res} {A : FA} {en e2 : En} {ds : List PyData} {x : Str} (h : A en = some (ds, e2)) (hg : G ds = some (.bad x)) : sCallX G A en = some (.ex x e2) := by
  unfold sCallX
  simp [h, hg]
theorem need_web_bad (w : PyData) (h : w ∈ badWebs) (nm : Str) (hn : nm.length ≤ 1000) (m : Int) : G_need_web [w, .str nm, .int m] = some (.bad nm) := by
  have c := is_web_bad w h
  unfold G_need_web runP F_need_web start0
  have e := @sRaise_str (fVar 1) [.im w, .im (.str nm), .im (.int m)] nm [.im w, .im (.str nm), .im (.int m)] (by simp) hn
  simp [c, e]
def isBad (nm : Str) (r : Option Res) : Bool := match r with | some (.bad x) => x == nm | _ => false
theorem of_isBad {nm : Str} {r : Option Res} (h : isBad nm r = true) : r = some (.bad nm) := by
  unfold isBad at h
  split at h
  · rw [beq_iff_eq] at h
    rw [h]
  · cases h
end N

set_option Elab.async false
set_option linter.all false
set_option maxRecDepth 100000
set_option maxHeartbeats 4000000
/-! M4: defs at bad webs. -/
namespace N
open PySem
theorem is_switch_bad (w v : PyData) (h : w ∈ badWebs) : G_is_switch [w, v] = some (.bad "web") := by
  unfold G_is_switch runP F_is_switch start0
  have e := @sCallX_bad G_need_web (fCons (fVar 0) (fCons (fC (.str "web")) (fCons (fC (.int 26)) fNil))) [.im w, .im v, .no, .no, .no, .no, .no] [.im w, .im v, .no, .no, .no, .no, .no] [w, .str "web", .int 26] "web" (by simp) (need_web_bad w h "web" (by decide) 26)
  simp [e]
theorem turned_web_bad (w v : PyData) (h : w ∈ badWebs) : G_turned_web [w, v] = some (.bad "web") := by
  unfold G_turned_web runP F_turned_web start0
  have e := @sCallX_bad G_need_web (fCons (fVar 0) (fCons (fC (.str "web")) (fCons (fC (.int 26)) fNil))) [.im w, .im v, .no, .no, .no, .no] [.im w, .im v, .no, .no, .no, .no] [w, .str "web", .int 26] "web" (by simp) (need_web_bad w h "web" (by decide) 26)
  simp [e]
theorem odd_triples_bad (w : PyData) (h : w ∈ badWebs) : G_odd_triples [w] = some (.bad "web") := by
  unfold G_odd_triples runP F_odd_triples start0
  have e := @sCallX_bad G_need_web (fCons (fVar 0) (fCons (fC (.str "web")) (fCons (fC (.int 26)) fNil))) [.im w, .no, .no, .no, .no, .no, .no] [.im w, .no, .no, .no, .no, .no, .no] [w, .str "web", .int 26] "web" (by simp) (need_web_bad w h "web" (by decide) 26)
  simp [e]
end N

set_option Elab.async false
set_option linter.all false
set_option maxRecDepth 100000
set_option maxHeartbeats 400000
/-! M5: small facts. -/
namespace N
open PySem
def isOk (r : Option Res) : Bool := match r with | some (.ok _) => true | _ => false
theorem ring5_ok : isOk (G_ring_web [.int 5]) = true := by decide +kernel
theorem is_some_none (w : PyData) : G_is_some [w, .none] = some (.ok (.bool false)) := by
  unfold G_is_some runP F_is_some start0
  simp
theorem is_some_list (w : PyData) (ds : List PyData) : G_is_some [w, .list ds] = some (.ok (.bool false)) := by
  unfold G_is_some runP F_is_some start0
  simp
end N

set_option Elab.async false
set_option linter.all false
/-! X1: sums, square tables, what a switch keeps. Plain. -/
namespace Plx
def S : Nat → (Nat → Int) → Int
  | 0, _ => 0
  | n + 1, f => S n f + f n
theorem S_list (n : Nat) (f : Nat → Int) : ((List.range n).map f).sum = S n f := by
  induction n with
  | zero => rfl
  | succ n ih =>
    rw [List.range_succ, List.map_append, List.sum_append, ih]
    simp [S]
theorem S_congr {n : Nat} {f g : Nat → Int} (h : ∀ k, k < n → f k = g k) : S n f = S n g := by
  induction n with
  | zero => rfl
  | succ n ih =>
    show S n f + f n = S n g + g n
    rw [ih fun k hk => h k (by omega), h n (by omega)]
theorem S_zero {n : Nat} : S n (fun _ => 0) = 0 := by
  induction n with
  | zero => rfl
  | succ n ih => show S n _ + 0 = 0; rw [ih]; rfl
theorem S_add {n : Nat} {f g : Nat → Int} : S n (fun k => f k + g k) = S n f + S n g := by
  induction n with
  | zero => rfl
  | succ n ih =>
    show S n _ + (f n + g n) = (S n f + f n) + (S n g + g n)
    rw [ih]
    omega
theorem S_mul {n : Nat} {c : Int} {f : Nat → Int} : S n (fun k => c * f k) = c * S n f := by
  induction n with
  | zero => simp [S]
  | succ n ih =>
    show S n _ + c * f n = c * (S n f + f n)
    rw [ih, Int.mul_add]
theorem S_mulr {n : Nat} {c : Int} {f : Nat → Int} : S n (fun k => f k * c) = S n f * c := by
  rw [Int.mul_comm, ← S_mul]
  exact S_congr fun k _ => Int.mul_comm _ _
theorem S_swap {n m : Nat} {f : Nat → Nat → Int} : S n (fun i => S m (f i)) = S m (fun j => S n (fun i => f i j)) := by
  induction n with
  | zero => exact S_zero.symm
  | succ n ih =>
    show S n _ + S m (f n) = S m (fun j => S n (fun i => f i j) + f n j)
    rw [ih, S_add]
theorem S_one {n i : Nat} {f : Nat → Int} (h : i < n) : S n (fun k => if k = i then f k else 0) = f i := by
  induction n with
  | zero => omega
  | succ n ih =>
    show S n _ + (if n = i then f n else 0) = f i
    by_cases e : n = i
    · subst e
      rw [if_pos rfl, S_congr (g := fun _ => 0) fun k hk => if_neg (by omega), S_zero]
      omega
    · rw [ih (by omega), if_neg e]
      omega
abbrev Mx := Nat → Nat → Int
def mul (n : Nat) (a b : Mx) : Mx := fun i j => S n fun k => a i k * b k j
def one : Mx := fun i j => if i = j then 1 else 0
def tr (n : Nat) (a : Mx) : Int := S n fun i => a i i
theorem mul_assoc {n : Nat} {a b c : Mx} {i j : Nat} : mul n (mul n a b) c i j = mul n a (mul n b c) i j := by
  show S n (fun k => S n (fun l => a i l * b l k) * c k j) = S n (fun l => a i l * S n (fun k => b l k * c k j))
  have e1 : S n (fun k => S n (fun l => a i l * b l k) * c k j) = S n (fun k => S n (fun l => a i l * b l k * c k j)) := S_congr fun k _ => S_mulr.symm
  have e2 : S n (fun l => a i l * S n (fun k => b l k * c k j)) = S n (fun l => S n (fun k => a i l * b l k * c k j)) := S_congr fun l _ => by
    rw [← S_mul]
    exact S_congr fun k _ => (Int.mul_assoc _ _ _).symm
  rw [e1, e2, S_swap]
theorem mul_congr {n : Nat} {a b c d : Mx} {i j : Nat} (h1 : ∀ k, k < n → a i k = c i k) (h2 : ∀ k, k < n → b k j = d k j) : mul n a b i j = mul n c d i j := S_congr fun k hk => by rw [h1 k hk, h2 k hk]
theorem mul_one {n : Nat} {a : Mx} {i j : Nat} (hj : j < n) : mul n a one i j = a i j := by
  show S n (fun k => a i k * (if k = j then 1 else 0)) = a i j
  rw [S_congr (g := fun k => if k = j then a i k else 0) fun k _ => by by_cases h : k = j <;> simp [h], S_one hj]
theorem one_mul {n : Nat} {a : Mx} {i j : Nat} (hi : i < n) : mul n one a i j = a i j := by
  show S n (fun k => (if i = k then 1 else 0) * a k j) = a i j
  rw [S_congr (g := fun k => if k = i then a k j else 0) fun k _ => by
    by_cases h : k = i
    · simp [h]
    · rw [if_neg (fun z => h z.symm), if_neg h, Int.zero_mul], S_one hi]
theorem tr_comm {n : Nat} {a b : Mx} : tr n (mul n a b) = tr n (mul n b a) := by
  show S n (fun i => S n (fun k => a i k * b k i)) = S n (fun i => S n (fun k => b i k * a k i))
  rw [S_swap]
  exact S_congr fun i _ => S_congr fun k _ => Int.mul_comm _ _
theorem tr_congr {n : Nat} {a b : Mx} (h : ∀ i, i < n → a i i = b i i) : tr n a = tr n b := S_congr h
/-- x and y go over q -/
def Tw (n : Nat) (q x y : Mx) : Prop := ∀ i j, i < n → j < n → mul n q x i j = mul n y q i j
theorem Tw.one {n : Nat} {q : Mx} : Tw n q one one := fun i j hi hj => by rw [mul_one hj, one_mul hi]
theorem Tw.mul {n : Nat} {q x y x' y' : Mx} (h : Tw n q x y) (h' : Tw n q x' y') : Tw n q (mul n x x') (mul n y y') := fun i j hi hj => by
  rw [← mul_assoc, mul_congr (c := Plx.mul n y q) (d := x') (fun k hk => h i k hi hk) (fun _ _ => rfl), mul_assoc,
    mul_congr (c := y) (d := Plx.mul n y' q) (fun _ _ => rfl) (fun k hk => h' k j hk hj), ← mul_assoc]
theorem Tw.add {n : Nat} {q x y : Mx} {c : Int} (h : Tw n q x y) : Tw n q (fun i j => x i j + if i = j then c else 0) (fun i j => y i j + if i = j then c else 0) := fun i j hi hj => by
  have e1 : Plx.mul n q (fun i j => x i j + if i = j then c else 0) i j = Plx.mul n q x i j + c * q i j := by
    show S n (fun k => q i k * (x k j + if k = j then c else 0)) = _
    rw [S_congr (g := fun k => q i k * x k j + if k = j then c * q i k else 0) fun k _ => by
      by_cases e : k = j
      · simp [e, Int.mul_add, Int.mul_comm]
      · simp [e], S_add, S_one hj]
    rfl
  have e2 : Plx.mul n (fun i j => y i j + if i = j then c else 0) q i j = Plx.mul n y q i j + c * q i j := by
    show S n (fun k => (y i k + if i = k then c else 0) * q k j) = _
    rw [S_congr (g := fun k => y i k * q k j + if k = i then c * q k j else 0) fun k _ => by
      by_cases e : k = i
      · simp [e, Int.add_mul]
      · have e' : ¬ i = k := fun z => e z.symm
        simp [e, e'], S_add, S_one hi]
    rfl
  rw [e1, e2, h i j hi hj]
theorem Tw.tr {n : Nat} {q x y : Mx} {c : Int} (hc : c ≠ 0) (hq : ∀ i j, i < n → j < n → Plx.mul n q q i j = if i = j then c else 0) (h : Tw n q x y) : tr n x = tr n y := by
  have e1 : c * Plx.tr n x = Plx.tr n (Plx.mul n (Plx.mul n q q) x) := by
    show c * S n _ = S n _
    rw [← S_mul]
    refine S_congr fun i hi => ?_
    rw [mul_congr (c := fun i j => if i = j then c else 0) (d := x) (fun k hk => hq i k hi hk) (fun _ _ => rfl)]
    show _ = S n fun k => (if i = k then c else 0) * x k i
    rw [S_congr (g := fun k => if k = i then c * x k i else 0) fun k _ => by
      by_cases e : k = i
      · simp [e]
      · have e' : ¬ i = k := fun z => e z.symm
        simp [e, e'], S_one hi]
  have e2 : c * Plx.tr n y = Plx.tr n (Plx.mul n y (Plx.mul n q q)) := by
    show c * S n _ = S n _
    rw [← S_mul]
    refine S_congr fun i hi => ?_
    rw [mul_congr (c := y) (d := fun i j => if i = j then c else 0) (fun _ _ => rfl) (fun k hk => hq k i hk hi)]
    show _ = S n fun k => y i k * (if k = i then c else 0)
    rw [S_congr (g := fun k => if k = i then c * y i k else 0) fun k _ => by
      by_cases e : k = i
      · simp [e, Int.mul_comm]
      · simp [e], S_one hi]
  have e3 : Plx.tr n (Plx.mul n (Plx.mul n q q) x) = Plx.tr n (Plx.mul n y (Plx.mul n q q)) := by
    rw [tr_congr (b := Plx.mul n q (Plx.mul n q x)) fun i _ => mul_assoc, tr_congr (b := Plx.mul n q (Plx.mul n y q)) fun i hi => mul_congr (fun _ _ => rfl) (fun k hk => h k i hk hi), tr_comm]
    exact tr_congr fun i _ => mul_assoc
  have e4 : c * Plx.tr n x = c * Plx.tr n y := by rw [e1, e2, e3]
  exact Int.eq_of_mul_eq_mul_left hc e4
/-- how many -/
def cnt (n : Nat) (p : Nat → Bool) : Nat := ((List.range n).filter p).length
theorem cnt_succ {n : Nat} {p : Nat → Bool} : cnt (n + 1) p = cnt n p + if p n = true then 1 else 0 := by
  unfold cnt
  rw [List.range_succ, List.filter_append, List.length_append]
  by_cases h : p n = true <;> simp [h]
theorem cnt_S {n : Nat} {p : Nat → Bool} : (cnt n p : Int) = S n fun k => if p k = true then 1 else 0 := by
  induction n with
  | zero => rfl
  | succ n ih =>
    rw [cnt_succ]
    show _ = S n _ + _
    rw [← ih]
    by_cases h : p n = true <;> simp [h]
theorem cnt_congr {n : Nat} {p q : Nat → Bool} (h : ∀ k, k < n → p k = q k) : cnt n p = cnt n q := by
  unfold cnt
  rw [List.filter_congr fun k hk => h k (List.mem_range.mp hk)]
theorem cnt_zero {n : Nat} {p : Nat → Bool} (h : cnt n p = 0) : ∀ k, k < n → p k = false := fun k hk => by
  unfold cnt at h
  cases e : p k with
  | false => rfl
  | true =>
    have z : k ∈ (List.range n).filter p := List.mem_filter.mpr ⟨List.mem_range.mpr hk, e⟩
    rw [List.length_eq_zero_iff.mp h] at z
    cases z
theorem cnt_split {n : Nat} {p q : Nat → Bool} : cnt n (fun k => p k && q k) + cnt n (fun k => p k && !q k) = cnt n p := by
  induction n with
  | zero => rfl
  | succ n ih =>
    rw [cnt_succ, cnt_succ, cnt_succ]
    cases p n <;> cases q n <;> simp <;> omega
theorem cnt_full {n : Nat} {p q : Nat → Bool} (h : cnt n (fun k => p k && q k) = cnt n p) : ∀ k, k < n → p k = true → q k = true := fun k hk hp => by
  have s := cnt_split (n := n) (p := p) (q := q)
  have z := cnt_zero (p := fun k => p k && !q k) (n := n) (by omega) k hk
  simp [hp] at z
  exact z
/-! ### switching -/
section
variable {n : Nat} (A : Nat → Nat → Bool) (P : Nat → Bool)
/-- neighbours in the set -/
def din (n : Nat) (A : Nat → Nat → Bool) (P : Nat → Bool) (j : Nat) : Nat := cnt n fun k => P k && A j k
structure Sw (n : Nat) (A : Nat → Nat → Bool) (P : Nat → Bool) : Prop where
  sym : ∀ i j, A i j = A j i
  pos : 0 < cnt n P
  reg : ∀ i j, i < n → j < n → P i = true → P j = true → din n A P i = din n A P j
  out : ∀ j, j < n → P j = false → din n A P j = 0 ∨ din n A P j = cnt n P ∨ 2 * din n A P j = cnt n P
/-- the switched web -/
def sw (n : Nat) (A : Nat → Nat → Bool) (P : Nat → Bool) : Nat → Nat → Bool := fun i j =>
  if P i = true ∧ P j = false ∧ 2 * din n A P j = cnt n P then !A i j
  else if P j = true ∧ P i = false ∧ 2 * din n A P i = cnt n P then !A i j
  else A i j
variable {A P}
theorem sw_sym (s : ∀ i j, A i j = A j i) (i j : Nat) : sw n A P i j = sw n A P j i := by
  unfold sw
  rw [s i j]
  by_cases h1 : P i = true ∧ P j = false ∧ 2 * din n A P j = cnt n P
  · have h2 : ¬ (P j = true ∧ P i = false ∧ 2 * din n A P i = cnt n P) := by
      rintro ⟨a, b, _⟩
      rw [h1.1] at b
      cases b
    simp [h1, h2]
  · by_cases h2 : P j = true ∧ P i = false ∧ 2 * din n A P i = cnt n P
    · rw [if_neg h1, if_pos h2, if_pos h2]
    · rw [if_neg h1, if_neg h2, if_neg h2, if_neg h1]
theorem sw_in {i j : Nat} (hi : P i = true) (hj : P j = true) : sw n A P i j = A i j := by
  unfold sw
  simp [hi, hj]
theorem sw_out {i j : Nat} (hi : P i = false) (hj : P j = false) : sw n A P i j = A i j := by
  unfold sw
  simp [hi, hj]
theorem sw_io {i j : Nat} (hi : P i = true) (hj : P j = false) : sw n A P i j = if 2 * din n A P j = cnt n P then !A i j else A i j := by
  unfold sw
  simp [hi, hj]
theorem sw_oi {i j : Nat} (hi : P i = false) (hj : P j = true) : sw n A P i j = if 2 * din n A P i = cnt n P then !A i j else A i j := by
  unfold sw
  simp [hi, hj]
theorem din_sw (s : Sw n A P) {j : Nat} (hj : j < n) : din n (sw n A P) P j = din n A P j := by
  cases hp : P j with
  | true =>
    refine cnt_congr fun k _ => ?_
    cases hk : P k with
    | true => rw [sw_in hp hk]
    | false => rfl
  | false =>
    by_cases h : 2 * din n A P j = cnt n P
    · have e : din n (sw n A P) P j = cnt n fun k => P k && !A j k := by
        refine cnt_congr fun k _ => ?_
        cases hk : P k with
        | true => rw [sw_oi hp hk, if_pos h]
        | false => rfl
      have z := cnt_split (n := n) (p := P) (q := A j)
      rw [e]
      unfold din at h ⊢
      omega
    · refine cnt_congr fun k _ => ?_
      cases hk : P k with
      | true => rw [sw_oi hp hk, if_neg h]
      | false => rfl
theorem Sw.sw (s : Sw n A P) : Sw n (sw n A P) P where
  sym := sw_sym s.sym
  pos := s.pos
  reg i j hi hj h1 h2 := by rw [din_sw s hi, din_sw s hj]; exact s.reg i j hi hj h1 h2
  out j hj h := by rw [din_sw s hj]; exact s.out j hj h
theorem sw_sw (s : Sw n A P) {i j : Nat} (hi : i < n) (hj : j < n) : Plx.sw n (Plx.sw n A P) P i j = A i j := by
  cases hp : P i with
  | true => cases hq : P j with
    | true => rw [sw_in hp hq, sw_in hp hq]
    | false =>
      rw [sw_io hp hq, din_sw s hj, sw_io hp hq]
      by_cases h : 2 * din n A P j = cnt n P <;> simp [h]
  | false => cases hq : P j with
    | true =>
      rw [sw_oi hp hq, din_sw s hi, sw_oi hp hq]
      by_cases h : 2 * din n A P i = cnt n P <;> simp [h]
    | false => rw [sw_out hp hq, sw_out hp hq]
def mx (A : Nat → Nat → Bool) : Mx := fun i j => if A i j = true then 1 else 0
/-- the table that turns one into the other, times the size of the set -/
def qm (n : Nat) (P : Nat → Bool) : Mx := fun i j => (if P i = true ∧ P j = true then 2 else 0) + if i = j then (if P i = true then -(cnt n P : Int) else (cnt n P : Int)) else 0
theorem qm_mul {x : Mx} {i j : Nat} (hi : i < n) : mul n (qm n P) x i j = (if P i = true then 2 * S n (fun k => if P k = true then x k j else 0) - (cnt n P : Int) * x i j else (cnt n P : Int) * x i j) := by
  show S n (fun k => ((if P i = true ∧ P k = true then (2 : Int) else 0) + if i = k then (if P i = true then -(cnt n P : Int) else (cnt n P : Int)) else 0) * x k j) = _
  rw [S_congr (g := fun k => (if P i = true then 2 else 0) * (if P k = true then x k j else 0) + if k = i then (if P i = true then -(cnt n P : Int) else (cnt n P : Int)) * x k j else 0) fun k _ => by
    by_cases e : k = i
    · subst e
      by_cases h1 : P k = true <;> simp [h1, Int.add_mul]
    · have e' : ¬ i = k := fun z => e z.symm
      by_cases h1 : P i = true <;> by_cases h2 : P k = true <;> simp [e, e', h1, h2], S_add, S_mul, S_one hi]
  by_cases h1 : P i = true
  · simp [h1, Int.neg_mul, Int.mul_neg]; omega
  · simp [h1]
theorem mul_qm {x : Mx} {i j : Nat} (hj : j < n) : mul n x (qm n P) i j = (if P j = true then 2 * S n (fun k => if P k = true then x i k else 0) - (cnt n P : Int) * x i j else (cnt n P : Int) * x i j) := by
  show S n (fun k => x i k * ((if P k = true ∧ P j = true then (2 : Int) else 0) + if k = j then (if P k = true then -(cnt n P : Int) else (cnt n P : Int)) else 0)) = _
  rw [S_congr (g := fun k => (if P j = true then 2 else 0) * (if P k = true then x i k else 0) + if k = j then (if P j = true then -(cnt n P : Int) else (cnt n P : Int)) * x i k else 0) fun k _ => by
    by_cases e : k = j
    · subst e
      by_cases h1 : P k = true <;> simp [h1, Int.mul_add, Int.mul_comm]
    · by_cases h1 : P j = true <;> by_cases h2 : P k = true <;> simp [e, h1, h2, Int.mul_comm], S_add, S_mul, S_one hj]
  by_cases h1 : P j = true
  · simp [h1, Int.neg_mul, Int.mul_neg]; omega
  · simp [h1]
theorem qm_qm {i j : Nat} (hi : i < n) (hj : j < n) : mul n (qm n P) (qm n P) i j = if i = j then (cnt n P : Int) * (cnt n P : Int) else 0 := by
  rw [qm_mul hi]
  have e0 : S n (fun k => if P k = true then qm n P k j else 0) = if P j = true then (cnt n P : Int) else 0 := by
    rw [S_congr (g := fun k => (if P j = true then 2 else 0) * (if P k = true then 1 else 0) + if k = j then (if P j = true then -(cnt n P : Int) else 0) else 0) fun k _ => by
      unfold qm
      by_cases e : k = j
      · subst e
        by_cases h1 : P k = true <;> simp [h1]
      · by_cases h1 : P j = true <;> by_cases h2 : P k = true <;> simp [e, h1, h2], S_add, S_mul, S_one (f := fun _ => (if P j = true then -(cnt n P : Int) else 0)) hj, ← cnt_S]
    by_cases h1 : P j = true
    · simp [h1, Int.neg_mul, Int.mul_neg]; omega
    · simp [h1]
  rw [e0]
  unfold qm
  by_cases e : i = j
  · subst e
    by_cases h1 : P i = true
    · simp [h1, Int.mul_add, Int.mul_neg]; omega
    · simp [h1]
  · by_cases h1 : P i = true <;> by_cases h2 : P j = true <;> simp [e, h1, h2]; omega
theorem S_din {B : Nat → Nat → Bool} {i : Nat} : S n (fun k => if P k = true then mx B i k else 0) = (din n B P i : Int) := by
  unfold din
  rw [cnt_S]
  refine S_congr fun k _ => ?_
  unfold mx
  by_cases h1 : P k = true <;> by_cases h2 : B i k = true <;> simp [h1, h2]
theorem tw_sw (s : Sw n A P) : Tw n (qm n P) (mx A) (mx (Plx.sw n A P)) := fun i j hi hj => by
  rw [qm_mul hi, mul_qm hj, S_din]
  have e1 : S n (fun k => if P k = true then mx A k j else 0) = (din n A P j : Int) := by
    rw [← S_din]
    refine S_congr fun k _ => ?_
    unfold mx
    rw [s.sym k j]
  rw [e1, din_sw s hi]
  cases hp : P i with
  | true => cases hq : P j with
    | true =>
      simp only [if_true]
      unfold mx
      rw [sw_in hp hq, s.reg i j hi hj hp hq]
    | false =>
      unfold mx
      rw [sw_io hp hq]
      rcases s.out j hj hq with h | h | h
      · have z := cnt_zero (n := n) (p := fun k => P k && A j k) h i hi
        have z2 : A i j = false := by
          rw [s.sym]
          simpa [hp] using z
        have c : ¬ 2 * din n A P j = cnt n P := by have := s.pos; omega
        rw [if_neg c, z2, h]
        simp
      · have z := cnt_full (n := n) (p := P) (q := A j) h i hi hp
        have z2 : A i j = true := by rw [s.sym]; exact z
        have c : ¬ 2 * din n A P j = cnt n P := by have := s.pos; omega
        rw [if_neg c, z2, h]
        simp
        omega
      · have c2 : 2 * (din n A P j : Int) = (cnt n P : Int) := by omega
        simp [h]
        rw [c2]
        by_cases z : A i j = true <;> simp [z]
  | false => cases hq : P j with
    | true =>
      unfold mx
      rw [sw_oi hp hq]
      rcases s.out i hi hp with h | h | h
      · have z := cnt_zero (n := n) (p := fun k => P k && A i k) h j hj
        have z2 : A i j = false := by simpa [hq] using z
        have c : ¬ 2 * din n A P i = cnt n P := by have := s.pos; omega
        rw [if_neg c, z2, h]
        simp
      · have z2 := cnt_full (n := n) (p := P) (q := A i) h j hj hq
        have c : ¬ 2 * din n A P i = cnt n P := by have := s.pos; omega
        rw [if_neg c, z2, h]
        simp
        omega
      · have c2 : 2 * (din n A P i : Int) = (cnt n P : Int) := by omega
        simp [h]
        rw [c2]
        by_cases z : A i j = true <;> simp [z]
    | false =>
      unfold mx
      rw [sw_out hp hq]
      simp
end
end Plx

set_option Elab.async false
set_option linter.all false
/-! X2: strictly ascending lists; webs by their ties; triples. Plain. -/
namespace Plx
theorem strict_eq {α : Type} {lt : α → α → Prop} (irr : ∀ a, ¬ lt a a) (asy : ∀ a b, lt a b → ¬ lt b a) : ∀ {l m : List α}, l.Pairwise lt → m.Pairwise lt → (∀ x, x ∈ l ↔ x ∈ m) → l = m
  | [], [], _, _, _ => rfl
  | [], y :: m, _, _, h => absurd ((h y).mpr List.mem_cons_self) (by simp)
  | x :: l, [], _, _, h => absurd ((h x).mp List.mem_cons_self) (by simp)
  | x :: l, y :: m, hl, hm, h => by
    obtain ⟨a1, a2⟩ := List.pairwise_cons.mp hl
    obtain ⟨b1, b2⟩ := List.pairwise_cons.mp hm
    have e : x = y := by
      rcases List.mem_cons.mp ((h x).mp List.mem_cons_self) with e | e
      · exact e
      · rcases List.mem_cons.mp ((h y).mpr List.mem_cons_self) with e2 | e2
        · exact e2.symm
        · exact absurd (b1 x e) (asy _ _ (a1 y e2))
    subst e
    congr 1
    refine strict_eq irr asy a2 b2 fun z => ⟨fun hz => ?_, fun hz => ?_⟩
    · rcases List.mem_cons.mp ((h z).mp (List.mem_cons_of_mem _ hz)) with e | e
      · exact absurd (a1 z hz) (by rw [e]; exact irr x)
      · exact e
    · rcases List.mem_cons.mp ((h z).mpr (List.mem_cons_of_mem _ hz)) with e | e
      · exact absurd (b1 z hz) (by rw [e]; exact irr x)
      · exact e
abbrev Asc (l : List Nat) : Prop := l.Pairwise (· < ·)
theorem asc_eq {l m : List Nat} (h : Asc l) (k : Asc m) (e : ∀ x, x ∈ l ↔ x ∈ m) : l = m := strict_eq (fun a => Nat.lt_irrefl a) (fun a b h => by omega) h k e
theorem asc_range {n : Nat} : Asc (List.range n) := List.pairwise_lt_range
theorem asc_range' {s n : Nat} : Asc (List.range' s n) := List.pairwise_lt_range'
/-- an ascending list below n is the filter of the range -/
theorem asc_filter {n : Nat} {l : List Nat} (h : Asc l) (b : ∀ x ∈ l, x < n) : (List.range n).filter (fun k => l.contains k) = l :=
  asc_eq (asc_range.filter _) h fun x => by
    rw [List.mem_filter, List.mem_range]
    simp
    exact b x
theorem asc_cnt {n : Nat} {l : List Nat} (h : Asc l) (b : ∀ x ∈ l, x < n) : cnt n (fun k => l.contains k) = l.length := by
  unfold cnt
  rw [asc_filter h b]
theorem asc_le {n : Nat} {l : List Nat} (h : Asc l) (b : ∀ x ∈ l, x < n) : l.length ≤ n := by
  rw [← asc_cnt h b]
  have z := List.length_filter_le (fun k => l.contains k) (List.range n)
  rw [List.length_range] at z
  exact z
abbrev NP := Nat × Nat
def ltN (p q : NP) : Prop := p.1 < q.1 ∨ (p.1 = q.1 ∧ p.2 < q.2)
instance (p q : NP) : Decidable (ltN p q) := by unfold ltN; infer_instance
theorem ltN_irr (p : NP) : ¬ ltN p p := by unfold ltN; omega
theorem ltN_asy (p q : NP) (h : ltN p q) : ¬ ltN q p := by unfold ltN at *; omega
abbrev AscP (l : List NP) : Prop := l.Pairwise ltN
theorem ascP_eq {l m : List NP} (h : AscP l) (k : AscP m) (e : ∀ x, x ∈ l ↔ x ∈ m) : l = m := strict_eq ltN_irr ltN_asy h k e
/-- from a + 1 to n - 1 -/
def aft (a n : Nat) : List Nat := List.range' (a + 1) (n - (a + 1))
theorem mem_aft {a n x : Nat} : x ∈ aft a n ↔ a < x ∧ x < n := by
  unfold aft
  rw [List.mem_range']
  constructor
  · rintro ⟨i, h, rfl⟩
    omega
  · rintro ⟨h1, h2⟩
    exact ⟨x - (a + 1), by omega, by omega⟩
theorem asc_aft {a n : Nat} : Asc (aft a n) := asc_range'
def pairs (n : Nat) : List NP := (List.range n).flatMap fun a => (aft a n).map fun b => (a, b)
theorem mem_pairs {n : Nat} {p : NP} : p ∈ pairs n ↔ p.1 < p.2 ∧ p.2 < n := by
  unfold pairs
  rw [List.mem_flatMap]
  constructor
  · rintro ⟨a, h1, h2⟩
    obtain ⟨b, h3, rfl⟩ := List.mem_map.mp h2
    exact mem_aft.mp h3
  · rintro ⟨h1, h2⟩
    exact ⟨p.1, List.mem_range.mpr (by omega), List.mem_map.mpr ⟨p.2, mem_aft.mpr ⟨h1, h2⟩, rfl⟩⟩
theorem asc_pairs {n : Nat} : AscP (pairs n) := by
  unfold pairs
  rw [List.flatMap_def]
  refine List.pairwise_flatten.mpr ⟨fun l hl => ?_, ?_⟩
  · obtain ⟨a, _, rfl⟩ := List.mem_map.mp hl
    exact List.pairwise_map.mpr (asc_aft.imp fun h => .inr ⟨rfl, h⟩)
  · refine List.pairwise_map.mpr (asc_range.imp fun {a b} h x hx y hy => ?_)
    obtain ⟨c, _, rfl⟩ := List.mem_map.mp hx
    obtain ⟨d, _, rfl⟩ := List.mem_map.mp hy
    exact .inl h
/-- ties of a web -/
def ties (n : Nat) (A : Nat → Nat → Bool) : List NP := (pairs n).filter fun p => A p.1 p.2
theorem asc_ties {n : Nat} {A : Nat → Nat → Bool} : AscP (ties n A) := asc_pairs.filter _
theorem mem_ties {n : Nat} {A : Nat → Nat → Bool} {p : NP} : p ∈ ties n A ↔ (p.1 < p.2 ∧ p.2 < n) ∧ A p.1 p.2 = true := by
  unfold ties
  rw [List.mem_filter, mem_pairs]
theorem ties_congr {n : Nat} {A B : Nat → Nat → Bool} (h : ∀ i j, i < j → j < n → A i j = B i j) : ties n A = ties n B := List.filter_congr fun p hp => by
  obtain ⟨h1, h2⟩ := mem_pairs.mp hp
  exact h _ _ h1 h2
structure Wb (A : Nat → Nat → Bool) : Prop where
  sym : ∀ i j, A i j = A j i
  irr : ∀ i, A i i = false
def adj (L : List NP) : Nat → Nat → Bool := fun i j => decide ((i, j) ∈ L) || decide ((j, i) ∈ L)
theorem adj_wb {L : List NP} (h : ∀ p ∈ L, p.1 < p.2) : Wb (adj L) where
  sym i j := Bool.or_comm _ _
  irr i := by
    unfold adj
    have z : (i, i) ∉ L := fun c => by have := h _ c; simp at this
    simp [z]
theorem adj_ties {n : Nat} {L : List NP} (a : AscP L) (h : ∀ p ∈ L, p.1 < p.2 ∧ p.2 < n) : ties n (adj L) = L := ascP_eq asc_ties a fun p => by
  rw [mem_ties]
  unfold adj
  constructor
  · rintro ⟨h1, h2⟩
    simp at h2
    rcases h2 with h2 | h2
    · exact h2
    · have := h _ h2
      simp at this
      omega
  · intro hp
    refine ⟨h p hp, ?_⟩
    simp [hp]
theorem pairs_len {n : Nat} (h : n ≤ 26) : (pairs n).length ≤ 325 := by
  have t : ∀ k : Fin 27, (pairs k.val).length ≤ 325 := by decide +kernel
  exact t ⟨n, by omega⟩
theorem ties_len {n : Nat} {A : Nat → Nat → Bool} (h : n ≤ 26) : (ties n A).length ≤ 325 := Nat.le_trans (List.length_filter_le _ _) (pairs_len h)
/-! ### neighbours by the ties -/
/-- what a tie adds at a place -/
def near (a : Nat) (t : NP) : List Nat := (if t.1 = a then [t.2] else []) ++ (if t.2 = a then [t.1] else [])
theorem mem_near {a x : Nat} {L : List NP} : x ∈ L.flatMap (near a) ↔ (a, x) ∈ L ∨ (x, a) ∈ L := by
  rw [List.mem_flatMap]
  constructor
  · rintro ⟨⟨p, q⟩, h, h2⟩
    unfold near at h2
    rcases List.mem_append.mp h2 with h2 | h2
    · split at h2
      · rename_i e
        simp at h2 e
        subst h2; subst e
        exact .inl h
      · cases h2
    · split at h2
      · rename_i e
        simp at h2 e
        subst h2; subst e
        exact .inr h
      · cases h2
  · rintro (h | h)
    · exact ⟨_, h, by simp [near]⟩
    · exact ⟨_, h, by simp [near]⟩
theorem nodup_near {a : Nat} {L : List NP} (nd : L.Nodup) (h : ∀ p ∈ L, p.1 < p.2) : (L.flatMap (near a)).Nodup := by
  induction L with
  | nil => simp
  | cons t L ih =>
    rw [List.flatMap_cons]
    obtain ⟨n1, n2⟩ := List.nodup_cons.mp nd
    have lt := h t List.mem_cons_self
    refine List.nodup_append.mpr ⟨?_, ih n2 fun p hp => h p (List.mem_cons_of_mem _ hp), ?_⟩
    · unfold near
      by_cases h1 : t.1 = a <;> by_cases h2 : t.2 = a <;> simp [h1, h2]
      omega
    · intro x hx y hy e
      subst e
      have hx' : (a, x) = t ∨ (x, a) = t := by
        have z := (mem_near (L := [t])).mp (by simpa using hx)
        simpa using z
      rcases mem_near.mp hy with z | z
      · rcases hx' with e | e
        · exact n1 (e ▸ z)
        · have := h _ (List.mem_cons_of_mem _ z)
          rw [← e] at lt
          simp at this lt
          omega
      · rcases hx' with e | e
        · have := h _ (List.mem_cons_of_mem _ z)
          rw [← e] at lt
          simp at this lt
          omega
        · exact n1 (e ▸ z)
/-- the row of a place -/
def rowN (n : Nat) (A : Nat → Nat → Bool) (a : Nat) : List Nat := (List.range n).filter (A a)
theorem asc_row {n : Nat} {A : Nat → Nat → Bool} {a : Nat} : Asc (rowN n A a) := asc_range.filter _
theorem ascP_nodup {L : List NP} (h : AscP L) : L.Nodup := h.imp fun {p q} h (e : p = q) => ltN_irr p (by rw [← e] at h; exact h)
theorem asc_nodup {L : List Nat} (h : Asc L) : L.Nodup := h.imp fun {p q} h (e : p = q) => by omega
/-- sorted without repeats is strictly so -/
theorem asc_of {l : List Nat} (h : l.Pairwise (· ≤ ·)) (nd : l.Nodup) : Asc l := (h.and nd).imp fun ⟨a, b⟩ => by omega
theorem ascP_of {l : List NP} (h : l.Pairwise fun p q => ¬ ltN q p) (nd : l.Nodup) : AscP l := (h.and nd).imp fun {p q} ⟨a, b⟩ => by
  unfold ltN at *
  have z : ¬ (p.1 = q.1 ∧ p.2 = q.2) := fun ⟨x, y⟩ => b (Prod.ext x y)
  omega
theorem row_of {n : Nat} {A : Nat → Nat → Bool} (w : Wb A) {a : Nat} (ha : a < n) {l : List Nat} (p : l.Perm ((ties n A).flatMap (near a))) (s : l.Pairwise (· ≤ ·)) : l = rowN n A a := by
  have nd : l.Nodup := p.nodup_iff.mpr (nodup_near (ascP_nodup asc_ties) fun p hp => (mem_ties.mp hp).1.1)
  refine asc_eq (asc_of s nd) asc_row fun x => ?_
  rw [p.mem_iff, mem_near, mem_ties, mem_ties]
  unfold rowN
  rw [List.mem_filter, List.mem_range]
  simp
  constructor
  · rintro (⟨⟨h1, h2⟩, h3⟩ | ⟨⟨h1, h2⟩, h3⟩)
    · exact ⟨h2, h3⟩
    · exact ⟨by omega, by rw [w.sym]; exact h3⟩
  · rintro ⟨h1, h2⟩
    by_cases e : a < x
    · exact .inl ⟨⟨e, h1⟩, h2⟩
    · have ne : a ≠ x := fun c => by
        subst c
        rw [w.irr] at h2
        cases h2
      exact .inr ⟨⟨by omega, ha⟩, by rw [w.sym]; exact h2⟩
/-! ### ascending rows of so many -/
def nxt (r : List Nat) : Nat := match r.getLast? with | some x => x + 1 | none => 0
def someL (n : Nat) : Nat → List (List Nat)
  | 0 => [[]]
  | k + 1 => (someL n k).flatMap fun r => (List.range' (nxt r) (n - nxt r)).map fun o => r ++ [o]
theorem some1 (n : Nat) : someL n 1 = (List.range n).map fun a => [a] := by
  simp [someL, nxt, List.range_eq_range']
theorem some2 (n : Nat) : someL n 2 = (pairs n).map fun p => [p.1, p.2] := by
  show (someL n 1).flatMap _ = _
  rw [some1, List.flatMap_map]
  unfold pairs
  rw [List.map_flatMap]
  refine congrArg (List.flatMap · _) (funext fun a => ?_)
  rw [List.map_map]
  rfl
def trips (n : Nat) : List (Nat × Nat × Nat) := (List.range n).flatMap fun a => (aft a n).flatMap fun b => (aft b n).map fun c => (a, b, c)
theorem some3 (n : Nat) : someL n 3 = (trips n).map fun t => [t.1, t.2.1, t.2.2] := by
  show (someL n 2).flatMap _ = _
  rw [some2, List.flatMap_map]
  unfold pairs trips
  rw [List.flatMap_assoc, List.map_flatMap]
  refine congrArg (List.flatMap · _) (funext fun a => ?_)
  rw [List.flatMap_map, List.map_flatMap]
  refine congrArg (List.flatMap · _) (funext fun b => ?_)
  rw [List.map_map]
  rfl
theorem mem_some {n : Nat} : ∀ {k : Nat} {r : List Nat}, r ∈ someL n k → Asc r ∧ (∀ x ∈ r, x < n) ∧ r.length = k
  | 0, r, h => by
    simp [someL] at h
    subst h
    exact ⟨List.Pairwise.nil, by simp, rfl⟩
  | k + 1, r, h => by
    unfold someL at h
    obtain ⟨q, hq, h⟩ := List.mem_flatMap.mp h
    obtain ⟨o, ho, rfl⟩ := List.mem_map.mp h
    obtain ⟨a, b, c⟩ := mem_some hq
    rw [List.mem_range'] at ho
    obtain ⟨i, hi, rfl⟩ := ho
    have last : ∀ x ∈ q, x < nxt q := by
      intro x hx
      unfold nxt
      rcases List.eq_nil_or_concat q with e | ⟨l, y, e⟩
      · subst e; cases hx
      · rw [List.concat_eq_append] at e
        subst e
        rw [List.getLast?_append]
        simp
        rcases List.mem_append.mp hx with hx | hx
        · have z := (List.pairwise_append.mp a).2.2 x hx y (by simp)
          omega
        · simp at hx
          omega
    refine ⟨List.pairwise_append.mpr ⟨a, List.pairwise_singleton _ _, fun x hx y hy => ?_⟩, fun x hx => ?_, by rw [List.length_append, c]; rfl⟩
    · simp at hy
      have := last x hx
      omega
    · rcases List.mem_append.mp hx with hx | hx
      · exact b x hx
      · simp at hx
        omega
theorem mem_trips {n a b c : Nat} (h : (a, b, c) ∈ trips n) : a < b ∧ b < c ∧ c < n := by
  unfold trips at h
  obtain ⟨x, h1, h⟩ := List.mem_flatMap.mp h
  obtain ⟨y, h2, h⟩ := List.mem_flatMap.mp h
  obtain ⟨z, h3, h⟩ := List.mem_map.mp h
  cases h
  rw [mem_aft] at h2 h3
  omega
/-- the three pairs of three places -/
theorem three {n a b c : Nat} (h1 : a < b) (h2 : b < c) (h3 : c < n) : (pairs n).filter (fun p => [a, b, c].contains p.1 && [a, b, c].contains p.2) = [(a, b), (a, c), (b, c)] := by
  refine ascP_eq (asc_pairs.filter _) ?_ fun p => ?_
  · simp [ltN]
    omega
  · rw [List.mem_filter, mem_pairs]
    obtain ⟨x, y⟩ := p
    simp
    omega
def bi (b : Bool) : Nat := if b = true then 1 else 0
theorem three_len {n a b c : Nat} {A : Nat → Nat → Bool} (h1 : a < b) (h2 : b < c) (h3 : c < n) : ((ties n A).filter (fun p => [a, b, c].contains p.1 && [a, b, c].contains p.2)).length = bi (A a b) + bi (A a c) + bi (A b c) := by
  unfold ties
  rw [List.filter_filter]
  have e : ∀ l : List NP, l.filter (fun p => ([a, b, c].contains p.1 && [a, b, c].contains p.2) && A p.1 p.2) = (l.filter (fun p => [a, b, c].contains p.1 && [a, b, c].contains p.2)).filter fun p => A p.1 p.2 := fun l => by
    rw [List.filter_filter]
    exact List.filter_congr fun p _ => Bool.and_comm _ _
  rw [e, three h1 h2 h3]
  unfold bi
  cases e1 : A a b <;> cases e2 : A a c <;> cases e3 : A b c <;> simp [e1, e2, e3]
/-- odd triples -/
def oddT (A : Nat → Nat → Bool) (t : Nat × Nat × Nat) : Nat := (bi (A t.1 t.2.1) + bi (A t.1 t.2.2) + bi (A t.2.1 t.2.2)) % 2
def odd (n : Nat) (A : Nat → Nat → Bool) : Nat := ((trips n).map (oddT A)).sum
theorem odd_filter {n : Nat} {A : Nat → Nat → Bool} {l : List (Nat × Nat × Nat)} : (l.filter fun t => decide ((bi (A t.1 t.2.1) + bi (A t.1 t.2.2) + bi (A t.2.1 t.2.2)) % 2 = 1)).length = (l.map (oddT A)).sum := by
  induction l with
  | nil => rfl
  | cons t l ih =>
    rw [List.filter_cons, List.map_cons, List.sum_cons, ← ih]
    unfold oddT
    by_cases h : (bi (A t.1 t.2.1) + bi (A t.1 t.2.2) + bi (A t.2.1 t.2.2)) % 2 = 1
    · simp [h]; omega
    · simp [h]; omega
/-- turned -/
def tn (A : Nat → Nat → Bool) (P : Nat → Bool) : Nat → Nat → Bool := fun i j => A i j != (P i != P j)
theorem tn_wb {A : Nat → Nat → Bool} {P : Nat → Bool} (w : Wb A) : Wb (tn A P) where
  sym i j := by
    unfold tn
    rw [w.sym i j]
    cases P i <;> cases P j <;> rfl
  irr i := by
    unfold tn
    rw [w.irr]
    cases P i <;> rfl
theorem tn_tn {A : Nat → Nat → Bool} {P : Nat → Bool} : tn (tn A P) P = A := by
  funext i j
  unfold tn
  cases A i j <;> cases P i <;> cases P j <;> rfl
theorem odd_tn {n : Nat} {A : Nat → Nat → Bool} {P : Nat → Bool} : odd n (tn A P) = odd n A := by
  unfold odd
  congr 1
  refine List.map_congr_left fun t _ => ?_
  obtain ⟨a, b, c⟩ := t
  unfold oddT tn bi
  cases A a b <;> cases A a c <;> cases A b c <;> cases P a <;> cases P b <;> cases P c <;> rfl
theorem sw_wb {n : Nat} {A : Nat → Nat → Bool} {P : Nat → Bool} (w : Wb A) : Wb (sw n A P) where
  sym := sw_sym w.sym
  irr i := by
    cases h : P i with
    | true => rw [sw_in h h, w.irr]
    | false => rw [sw_out h h, w.irr]
end Plx

set_option Elab.async false
set_option linter.all false
set_option maxRecDepth 100000
set_option maxHeartbeats 400000
/-! M7: data of naturals; sorted; equality; comprehensions and loops in one step. -/
namespace N
open PySem
abbrev nD (k : Nat) : PyData := .int (k : Int)
abbrev pD (p : Nat × Nat) : PyData := .tuple [nD p.1, nD p.2]
abbrev tN (l : List Nat) : PyData := .tuple (l.map nD)
abbrev lN (l : List Nat) : PyData := .list (l.map nD)
abbrev wD (n : Nat) (A : Nat → Nat → Bool) : PyData := .tuple [nD n, .tuple ((Plx.ties n A).map pD)]
/-! ranges -/
theorem rngD_aft (k n : Nat) : rngD ((k : Int) + 1) ((n : Int) - ((k : Int) + 1)).toNat = (Plx.aft k n).map nD := by
  have e := rngD_nat (k + 1) n
  rw [show ((k + 1 : Nat) : Int) = (k : Int) + 1 from Int.natCast_add k 1] at e
  exact e
theorem rngD_c (k m : Nat) : rngD (k : Int) m = (List.range' k m).map nD := by
  unfold rngD
  rw [List.range'_eq_map_range, List.map_map]
  refine List.map_congr_left fun i _ => ?_
  show PyData.int ((k : Int) + (i : Int)) = PyData.int ((k + i : Nat) : Int)
  rw [Int.natCast_add]
theorem rngD_c1 (k m : Nat) : rngD ((k : Int) + 1) m = (List.range' (k + 1) m).map nD := rngD_c (k + 1) m
theorem rngD_l1 (m : Nat) : rngD 1 m = (List.range' 1 m).map nD := rngD_c 1 m
theorem rngD_n0 (n : Nat) : rngD 0 n = (List.range n).map nD := by
  have e := rngD_nat0 n
  rw [Int.toNat_natCast] at e
  exact e
theorem rgOk_nat {a b : Nat} (h1 : a ≤ 1000) (h2 : b ≤ 1000) : rgOk (a : Int) (b : Int) = true := rgOk_small (by omega) (by omega) (by omega) (by omega)
theorem rgOk_nat0 {b : Nat} (h2 : b ≤ 1000) : rgOk 0 (b : Int) = true := rgOk_nat (a := 0) (by omega) h2
theorem rgOk_nat1 {a b : Nat} (h1 : a ≤ 900) (h2 : b ≤ 1000) : rgOk ((a : Int) + 1) (b : Int) = true := rgOk_small (by omega) (by omega) (by omega) (by omega)
/-! data that can be held against one another -/
def LY (k : Nat) (d : PyData) : Prop := d.canLay0 = true ∧ d.depth ≤ k
theorem LY.int (i : Int) : LY 0 (.int i) := ⟨rfl, by simp [PyData.depth]⟩
theorem LY.bool (i : Bool) : LY 0 (.bool i) := ⟨rfl, by simp [PyData.depth]⟩
theorem LY.mono {k m : Nat} {d : PyData} (h : LY k d) (l : k ≤ m) : LY m d := ⟨h.1, Nat.le_trans h.2 l⟩
theorem LY.all {k : Nat} : ∀ {ds : List PyData}, (∀ d ∈ ds, LY k d) → PyData.canLayAll0 ds = true ∧ PyData.depthAll ds ≤ k
  | [], _ => ⟨rfl, by simp [PyData.depthAll]⟩
  | d :: ds, h => by
    obtain ⟨h1, h2⟩ := h d List.mem_cons_self
    obtain ⟨h3, h4⟩ := LY.all (ds := ds) fun e he => h e (List.mem_cons_of_mem _ he)
    simp [PyData.canLayAll0, PyData.depthAll, h1, h3]
    omega
theorem LY.tup {k : Nat} {ds : List PyData} (h : ∀ d ∈ ds, LY k d) : LY (k + 1) (.tuple ds) := by
  obtain ⟨h1, h2⟩ := LY.all h
  refine ⟨by simpa [PyData.canLay0] using h1, ?_⟩
  simp [PyData.depth]
  omega
theorem LY.lst {k : Nat} {ds : List PyData} (h : ∀ d ∈ ds, LY k d) : LY (k + 1) (.list ds) := by
  obtain ⟨h1, h2⟩ := LY.all h
  refine ⟨by simpa [PyData.canLay0] using h1, ?_⟩
  simp [PyData.depth]
  omega
theorem LY.map {α : Type} {k : Nat} {f : α → PyData} {xs : List α} (h : ∀ x ∈ xs, LY k (f x)) : ∀ d ∈ xs.map f, LY k d := fun d hd => by
  obtain ⟨x, hx, rfl⟩ := List.mem_map.mp hd
  exact h x hx
theorem LY.pD (p : Nat × Nat) : LY 1 (pD p) := LY.tup fun d hd => by
  simp at hd
  rcases hd with rfl | rfl <;> exact LY.int _
theorem LY.tN (l : List Nat) : LY 1 (tN l) := LY.tup (LY.map fun _ _ => LY.int _)
theorem LY.wD (n : Nat) (A : Nat → Nat → Bool) : LY 3 (wD n A) := LY.tup fun d hd => by
  simp at hd
  rcases hd with rfl | rfl
  · exact (LY.int _).mono (by omega)
  · exact LY.tup (LY.map fun p _ => LY.pD p)
theorem LY.shaped {k : Nat} {d : PyData} (h : LY k d) (hk : k ≤ 64) : SeqAt.shaped d = true := by
  unfold SeqAt.shaped
  rw [h.1]
  simp
  exact Nat.le_trans h.2 hk
theorem eqv_refl0 {d : PyData} (h : d.canLay0 = true) : PyData.eqv d d = true := PySem.SeqAt.eqv_refl_plain d (PyData.plain_of_canLay0 d h)
theorem gEq_refl {k : Nat} {d : PyData} (h : LY k d) (hk : k ≤ 64) : gEq d d = some (.bool true) := by
  unfold gEq
  rw [h.shaped hk, eqv_refl0 h.1]
  rfl
theorem gNe_refl {k : Nat} {d : PyData} (h : LY k d) (hk : k ≤ 64) : gNe d d = some (.bool false) := by
  unfold gNe
  rw [h.shaped hk, eqv_refl0 h.1]
  rfl
@[simp] theorem gEqB {i j : Bool} : gEq (.bool i) (.bool j) = some (.bool (i == j)) := by
  cases i <;> cases j <;> rfl
@[simp] theorem gNeB {i j : Bool} : gNe (.bool i) (.bool j) = some (.bool (i != j)) := by
  cases i <;> cases j <;> rfl
theorem eqvN (i j : Nat) : PyData.eqv (nD i) (nD j) = decide (i = j) := by
  rw [eqvI]
  by_cases h : i = j
  · simp [h]
  · have h2 : ¬ (i : Int) = (j : Int) := by omega
    simp [h, h2]
theorem eqvP (p q : Nat × Nat) : PyData.eqv (pD p) (pD q) = decide (p = q) := by
  obtain ⟨a, b⟩ := p
  obtain ⟨c, d⟩ := q
  show (PyData.eqv (nD a) (nD c) && (PyData.eqv (nD b) (nD d) && true)) = _
  rw [eqvN, eqvN]
  by_cases h1 : a = c <;> by_cases h2 : b = d <;> simp [h1, h2]
/-- x in a row of naturals -/
theorem gInN_l {b : Bool} {x : Nat} {l : List Nat} : gIn b (nD x) (lN l) = some (.bool (if b then !l.contains x else l.contains x)) := by
  have s := (LY.lst (LY.map (k := 0) (f := nD) (xs := l) fun _ _ => LY.int _)).shaped (by omega)
  have e : ((l.map nD).any fun z => PyData.eqv z (nD x)) = l.contains x := by
    rw [List.any_map, Bool.eq_iff_iff, List.any_eq_true]
    simp [eqvN]
  unfold gIn
  simp only [s, (LY.int (x : Int)).shaped (by omega : 0 ≤ 64), e]
  rfl
theorem gInN_t {b : Bool} {x : Nat} {l : List Nat} : gIn b (nD x) (tN l) = some (.bool (if b then !l.contains x else l.contains x)) := by
  have s := (LY.tN l).shaped (by omega)
  have e : ((l.map nD).any fun z => PyData.eqv z (nD x)) = l.contains x := by
    rw [List.any_map, Bool.eq_iff_iff, List.any_eq_true]
    simp [eqvN]
  unfold gIn
  simp only [s, (LY.int (x : Int)).shaped (by omega : 0 ≤ 64), e]
  rfl
theorem gInP_t {b : Bool} {x : Nat × Nat} {l : List (Nat × Nat)} : gIn b (pD x) (.tuple (l.map pD)) = some (.bool (if b then !l.contains x else l.contains x)) := by
  have s := (LY.tup (LY.map (k := 1) (f := pD) (xs := l) fun p _ => LY.pD p)).shaped (by omega)
  have e : ((l.map pD).any fun z => PyData.eqv z (pD x)) = l.contains x := by
    rw [List.any_map, Bool.eq_iff_iff, List.any_eq_true]
    simp [eqvP, -Prod.mk.injEq, -Prod.forall, -Prod.exists]
  unfold gIn
  simp only [s, (LY.pD x).shaped (by omega : 1 ≤ 64), e]
  rfl
theorem gInP_l {b : Bool} {x : Nat × Nat} {l : List (Nat × Nat)} : gIn b (pD x) (.list (l.map pD)) = some (.bool (if b then !l.contains x else l.contains x)) := by
  have s := (LY.lst (LY.map (k := 1) (f := pD) (xs := l) fun p _ => LY.pD p)).shaped (by omega)
  have e : ((l.map pD).any fun z => PyData.eqv z (pD x)) = l.contains x := by
    rw [List.any_map, Bool.eq_iff_iff, List.any_eq_true]
    simp [eqvP, -Prod.mk.injEq, -Prod.forall, -Prod.exists]
  unfold gIn
  simp only [s, (LY.pD x).shaped (by omega : 1 ≤ 64), e]
  rfl
/-! sorted -/
theorem sortB_ints {l : List Nat} : sortB (l.map nD) = true := by
  unfold sortB alikeB
  have h1 : ((l.map nD).all fun x => (l.map nD).all fun y => PySem.W.alike x y) = true := by
    simp [List.all_map, PySem.W.alike]
  have h2 : (l.map nD).all otherB = true := by simp [List.all_map, otherB]
  have h3 : (l.map nD).all (fun d => decide (d.depth ≤ 60)) = true := by simp [List.all_map, PyData.depth]
  rw [h1, h2, h3]
  simp
theorem sortB_pairs {l : List (Nat × Nat)} : sortB (l.map pD) = true := by
  unfold sortB alikeB
  have h1 : ((l.map pD).all fun x => (l.map pD).all fun y => PySem.W.alike x y) = true := by
    simp [List.all_map, PySem.W.alike, PySem.W.alikeAll]
  have h2 : (l.map pD).all tupB = true := by simp [List.all_map, tupB]
  have h3 : (l.map pD).all (fun d => decide (d.depth ≤ 60)) = true := by simp [List.all_map, PyData.depth, PyData.depthAll]
  rw [h1, h2, h3]
  simp
theorem gSortL_ints (l : List Nat) : ∃ m : List Nat, m.Perm l ∧ m.Pairwise (· ≤ ·) ∧ gSortL (l.map nD) = some (.list (m.map nD)) := by
  refine ⟨l.mergeSort (fun a b => decide (a ≤ b)), List.mergeSort_perm _ _, ?_, ?_⟩
  · refine (List.pairwise_mergeSort (le := fun a b => decide (a ≤ b)) (fun a b c h1 h2 => ?_) (fun a b => ?_) l).imp fun h => of_decide_eq_true h
    · simp at *; omega
    · simp; omega
  · unfold gSortL
    rw [if_pos sortB_ints]
    congr 2
    refine (List.map_mergeSort fun a _ b _ => ?_).symm
    show decide (a ≤ b) = PySem.W.dataLe false (fun k : Nat => PyData.int ((k : Nat) : Int)) a b
    rw [PySem.W.dataLe_int fun k : Nat => ((k : Nat) : Int)]
    simp
theorem gSortL_pairs (l : List (Nat × Nat)) : ∃ m : List (Nat × Nat), m.Perm l ∧ m.Pairwise (fun p q => ¬ Plx.ltN q p) ∧ gSortL (l.map pD) = some (.list (m.map pD)) := by
  refine ⟨l.mergeSort (fun p q => decide (p.1 < q.1 ∨ (p.1 = q.1 ∧ p.2 ≤ q.2))), List.mergeSort_perm _ _, ?_, ?_⟩
  · refine (List.pairwise_mergeSort (le := fun p q : Nat × Nat => decide (p.1 < q.1 ∨ (p.1 = q.1 ∧ p.2 ≤ q.2))) (fun a b c h1 h2 => ?_) (fun a b => ?_) l).imp fun h => ?_
    · simp at *; omega
    · simp; omega
    · have := of_decide_eq_true h
      unfold Plx.ltN
      omega
  · unfold gSortL
    rw [if_pos sortB_pairs]
    congr 2
    refine (List.map_mergeSort fun a _ b _ => ?_).symm
    show decide (a.1 < b.1 ∨ (a.1 = b.1 ∧ a.2 ≤ b.2)) = PySem.W.dataLe false (fun k : Nat × Nat => PyData.tuple [PyData.int ((k.1 : Nat) : Int), PyData.int ((k.2 : Nat) : Int)]) a b
    rw [PySem.W.dataLe_ii (fun k : Nat × Nat => ((k.1 : Nat) : Int)) (fun k : Nat × Nat => ((k.2 : Nat) : Int))]
    refine decide_eq_decide.mpr ?_
    omega
/-! loops -/
@[simp] theorem sFor_e {I : FA} {tg : FG} {F : FS} {en : En} : sFor I tg F en = (I en).bind fun p => forGo tg F p.1 p.2 := rfl
@[simp] theorem muAt_mu {ds : List PyData} {en : En} {i : Nat} : muAt en i = match en[i]? with | some (.mu ds) => some ds | _ => none := rfl
@[simp] theorem fCallD_e {i : Nat} {G : List PyData → List PyData → Option (List PyData × PyData)} {A : FA} {en : En} : fCallD i G A en = (muAt en i).bind fun _ => (A en).bind fun p => (muAt p.2 i).bind fun dd => (G dd p.1).map fun r => (r.2, p.2.set i (.mu r.1)) := rfl
@[simp] theorem fApp_e {i : Nat} {Fe : FE} {en : En} : fApp i Fe en = (muAt en i).bind fun _ => (Fe en).bind fun p => (muAt p.2 i).bind fun ds => if ds.length < 100000 then some (.none, p.2.set i (.mu (ds ++ [p.1]))) else none := rfl
@[simp] theorem fPopAt_e {i : Nat} {Fe : FE} {en : En} : fPopAt i Fe en = (muAt en i).bind fun _ => (Fe en).bind fun p => (muAt p.2 i).bind fun ds => match p.1 with
  | .int j => (L2.ixN ds.length j).bind fun k => (ds[k]?).bind fun d => if ds.length ≤ 100000 then some (d, p.2.set i (.mu (ds.eraseIdx k))) else none
  | _ => none := rfl
@[simp] theorem sAsgMu_e {i : Nat} {Fe : FE} {en : En} : sAsgMu i Fe en = (Fe en).bind fun p => match p.1 with
  | .list ds => if i < p.2.length then some (.nx (p.2.set i (.mu ds))) else none
  | _ => none := rfl
@[simp] theorem sSetI_e {i : Nat} {Fe Fj : FE} {en : En} : sSetI i Fe Fj en = (Fe en).bind fun p => (Fj p.2).bind fun pj => match pj.1 with
  | .int j => (muAt p.2 i).bind fun _ => (muAt pj.2 i).bind fun ds => (L2.ixN ds.length j).map fun k => .nx (pj.2.set i (.mu (ds.set k p.1)))
  | _ => none := rfl
@[simp] theorem fIxM_e {i : Nat} {Fb : FE} {en : En} : fIxM i Fb en = (Fb en).bind fun p => match p.2[i]?, p.1 with | some (.mu ds), .int j => (L2.atI ds j).map fun d => (d, p.2) | _, _ => none := rfl
@[simp] theorem sAug_e {i : Nat} {g : PyData → PyData → Option PyData} {Fe : FE} {en : En} : sAug i g Fe en = match en[i]? with
  | some (.im d) => (Fe en).bind fun p => if isPlain p.2[i]? = true then (g d p.1).map fun z => .nx (p.2.set i (.im z)) else none
  | _ => none := rfl
@[simp] theorem sParF_e {i j : Nat} {Fa Fb : FE} {en : En} : sParF i j Fa Fb en = (Fa en).bind fun p => (Fb p.2).bind fun q => match q.1 with
  | .list ds => if isPlain q.2[i]? = true ∧ j < q.2.length ∧ i ≠ j then some (.nx ((q.2.set i (.im p.1)).set j (.mu ds))) else none
  | _ => none := rfl
@[simp] theorem fSl_e {F : FE} {lo hi : FO} {en : En} : fSl F lo hi en = (F en).bind fun p => (lo p.2).bind fun q => (hi q.2).bind fun r => (gSl p.1 q.1 r.1).map fun z => (z, r.2) := rfl
@[simp] theorem fNoPart_e {en : En} : fNoPart en = some (none, en) := rfl
@[simp] theorem fPart_e {F : FE} {en : En} : fPart F en = (F en).bind fun p => match p.1 with | .int i => some (some i, p.2) | _ => none := rfl

theorem forGo_nil {tg : FG} {F : FS} {e : En} : forGo tg F [] e = some (.nx e) := rfl
/-- a loop whose body goes on, by what it keeps -/
theorem forGo_inv {α β : Type} {tg : FG} {F : FS} {enc : α → PyData} (P : β → En → Prop) (step : β → α → β) : ∀ {xs : List α} {b : β} {e : En}, (∀ x ∈ xs, ∀ b e, P b e → ∃ e', ((tg (enc x) e).bind F) = some (.nx e') ∧ P (step b x) e') → P b e →
    ∃ e', forGo tg F (xs.map enc) e = some (.nx e') ∧ P (xs.foldl step b) e'
  | [], b, e, _, h => ⟨e, rfl, h⟩
  | x :: xs, b, e, hs, h => by
    obtain ⟨e1, h1, h2⟩ := hs x List.mem_cons_self b e h
    obtain ⟨e2, h3, h4⟩ := forGo_inv P step (xs := xs) (fun y hy => hs y (List.mem_cons_of_mem _ hy)) h2
    refine ⟨e2, ?_, h4⟩
    rw [List.map_cons]
    unfold forGo
    cases ht : tg (enc x) e with
    | none => rw [ht] at h1; cases h1
    | some et =>
      rw [ht] at h1
      simp only [Option.bind_some] at h1 ⊢
      rw [h1]
      exact h3
/-- the same, told by the places walked -/
theorem forGo_ix {α : Type} {tg : FG} {F : FS} {enc : α → PyData} (P : List α → En → Prop) : ∀ {xs pre : List α} {e : En}, (∀ pre x post, pre ++ x :: post = xs → ∀ e, P pre e → ∃ e', ((tg (enc x) e).bind F) = some (.nx e') ∧ P (pre ++ [x]) e') → P [] e →
    ∃ e', forGo tg F (xs.map enc) e = some (.nx e') ∧ P xs e' := by
  intro xs _ e h h0
  have go : ∀ (ys pre : List α) (e : En), pre ++ ys = xs → P pre e → ∃ e', forGo tg F (ys.map enc) e = some (.nx e') ∧ P xs e' := by
    intro ys
    induction ys with
    | nil =>
      intro pre e he hp
      rw [List.append_nil] at he
      subst he
      exact ⟨e, rfl, hp⟩
    | cons y ys ih =>
      intro pre e he hp
      obtain ⟨e1, h1, h2⟩ := h pre y ys he e hp
      obtain ⟨e2, h3, h4⟩ := ih (pre ++ [y]) e1 (by rw [← he]; simp) h2
      refine ⟨e2, ?_, h4⟩
      rw [List.map_cons]
      unfold forGo
      cases ht : tg (enc y) e with
      | none => rw [ht] at h1; cases h1
      | some et =>
        rw [ht] at h1
        simp only [Option.bind_some] at h1 ⊢
        rw [h1]
        exact h3
  exact go xs [] e rfl h0
end N

set_option Elab.async false
set_option linter.all false
set_option maxRecDepth 100000
set_option maxHeartbeats 400000
/-! M8: sides. -/
namespace N
open PySem
theorem map_range_set {α : Type} {n a : Nat} {f : Nat → α} {v : α} : ((List.range n).map f).set a v = (List.range n).map fun k => if k = a then v else f k := by
  refine List.ext_getElem (by simp) fun i h1 h2 => ?_
  rw [List.getElem_set]
  simp
  by_cases h : a = i
  · simp [h]
  · simp [h]
    intro z
    exact absurd z.symm h
theorem get_map_range {α : Type} {n a : Nat} {f : Nat → α} (h : a < n) : ((List.range n).map f)[a]? = some (f a) := by simp [h]
theorem fApp2_e {i : Nat} {Fj Fe : FE} {en : En} {dss : List (List PyData)} {a : Nat} {d : PyData} {ds : List PyData} (hi : en[i]? = some (.m2 dss)) (hj : Fj en = some (nD a, en)) (he : Fe en = some (d, en)) (ha : dss[a]? = some ds) (hl : ds.length < 100000) :
    fApp2 i Fj Fe en = some (.none, en.set i (.m2 (dss.set a (ds ++ [d])))) := by
  have h1 : a < dss.length := by
    rw [List.getElem?_eq_some_iff] at ha
    exact ha.1
  have e : L2.ixN dss.length (a : Int) = some a := by
    unfold L2.ixN
    rw [if_pos (by omega)]
    simp [h1]
  unfold fApp2
  simp [hj, he, hi, e, ha, hl]
theorem m2Go_nil6 {w : PyData} {ds : List PyData} : m2Go (tgN 4) (fLst fNil) [4] ds [.im w, .no, .no, .no, .no, .no] = some (ds.map fun _ => [], [.im w, .no, .no, .no, .no, .no]) := by
  induction ds with
  | nil => rfl
  | cons d ds ih =>
    unfold m2Go
    simp [ih]
theorem near_len {a : Nat} {L : List (Nat × Nat)} : (L.flatMap (Plx.near a)).length ≤ 2 * L.length := by
  induction L with
  | nil => simp
  | cons t L ih =>
    rw [List.flatMap_cons, List.length_append, List.length_cons]
    have : (Plx.near a t).length ≤ 2 := by
      unfold Plx.near
      split <;> split <;> simp
    omega
theorem sort_row {n : Nat} {A : Nat → Nat → Bool} (w : Plx.Wb A) {a : Nat} (ha : a < n) : gSortL (((Plx.ties n A).flatMap (Plx.near a)).map nD) = some (lN (Plx.rowN n A a)) := by
  obtain ⟨m, h1, h2, h3⟩ := gSortL_ints ((Plx.ties n A).flatMap (Plx.near a))
  rw [h3, Plx.row_of w ha h1 h2]
abbrev rowsD (n : Nat) (A : Nat → Nat → Bool) : PyData := .list ((List.range n).map fun a => lN (Plx.rowN n A a))
theorem sides_ok {n : Nat} {A : Nat → Nat → Bool} (w : Plx.Wb A) (hn : n ≤ 26) : G_sides [wD n A] = some (.ok (rowsD n A)) := by
  have hl := Plx.ties_len (A := A) hn
  have hr : rgOk 0 (n : Int) = true := rgOk_nat0 (by omega)
  have loop := forGo_ix (tg := tgT [2, 3]) (F := sSeq (sDrop (fApp2 1 (fVar 2) (fVar 3))) (sDrop (fApp2 1 (fVar 3) (fVar 2)))) (enc := pD)
    (fun pre e => pre.length ≤ 1000 → ∃ s2 s3, isPlain (some s2) = true ∧ isPlain (some s3) = true ∧ e = [.im (wD n A), .m2 ((List.range n).map fun a => (pre.flatMap (Plx.near a)).map nD), s2, s3, .no, .no])
    (xs := Plx.ties n A) (pre := []) (e := [.im (wD n A), .m2 ((List.range n).map fun a => []), .no, .no, .no, .no]) ?_ ?_
  · obtain ⟨e', h1, h2⟩ := loop
    obtain ⟨s2, s3, p2, p3, rfl⟩ := h2 (by omega)
    have fin : lcGo (tgN 5) fYes (fUn gSorted (fVar 5)) [5] ((List.range n).map fun a => PyData.list (((Plx.ties n A).flatMap (Plx.near a)).map nD)) [.im (wD n A), .im (.list ((List.range n).map fun a => PyData.list (((Plx.ties n A).flatMap (Plx.near a)).map nD))), s2, s3, .no, .no]
        = some ((List.range n).map fun a => lN (Plx.rowN n A a), [.im (wD n A), .im (.list ((List.range n).map fun a => PyData.list (((Plx.ties n A).flatMap (Plx.near a)).map nD))), s2, s3, .no, .no]) := by
      refine lcGo_map (enc := fun a => PyData.list (((Plx.ties n A).flatMap (Plx.near a)).map nD)) fun a ha => ?_
      have z := sort_row w (List.mem_range.mp ha)
      unfold lcStep
      simp [gSorted, z]
    have hn2 : n ≤ 100000 := by omega
    have hl2 : (Plx.ties n A).length ≤ 100000 := by omega
    unfold G_sides runP F_sides start0
    simp only [sSeq_e]
    unfold sM2 sFor sFreeze
    simp [hr, rngD_n0, m2Go_nil6, hl2, Function.comp_def, h1]
    simp [hn2, fin]
  · intro pre t post ht e he
    obtain ⟨x, y⟩ := t
    have hm : (x, y) ∈ Plx.ties n A := by rw [← ht]; simp
    obtain ⟨⟨q1, q2⟩, _⟩ := Plx.mem_ties.mp hm
    simp at q1 q2
    have hlen : pre.length + 1 ≤ 325 := by
      have := congrArg List.length ht
      simp at this
      omega
    obtain ⟨s2, s3, p2, p3, rfl⟩ := he (by omega)
    have nl : ∀ a, ((pre.flatMap (Plx.near a)).map nD).length < 90000 := fun a => by
      rw [List.length_map]
      have := near_len (a := a) (L := pre)
      omega
    refine ⟨_, ?_, fun _ => ⟨.im (nD x), .im (nD y), rfl, rfl, rfl⟩⟩
    have e1 := fApp2_e (i := 1) (Fj := fVar 2) (Fe := fVar 3) (en := [.im (wD n A), .m2 ((List.range n).map fun a => (pre.flatMap (Plx.near a)).map nD), .im (nD x), .im (nD y), .no, .no]) (a := x) (d := nD y) (ds := (pre.flatMap (Plx.near x)).map nD) rfl rfl rfl (get_map_range (by omega)) (by have := nl x; omega)
    rw [map_range_set] at e1
    have e2 := fApp2_e (i := 1) (Fj := fVar 3) (Fe := fVar 2) (en := [.im (wD n A), .m2 ((List.range n).map fun k => if k = x then (pre.flatMap (Plx.near x)).map nD ++ [nD y] else (pre.flatMap (Plx.near k)).map nD), .im (nD x), .im (nD y), .no, .no]) (a := y) (d := nD x) (ds := (pre.flatMap (Plx.near y)).map nD) rfl rfl rfl (by rw [get_map_range q2, if_neg (show ¬ y = x by omega)]) (by have := nl y; omega)
    rw [map_range_set] at e2
    have fin : (List.range n).map (fun k => if k = y then (pre.flatMap (Plx.near y)).map nD ++ [nD x] else if k = x then (pre.flatMap (Plx.near x)).map nD ++ [nD y] else (pre.flatMap (Plx.near k)).map nD) = (List.range n).map fun a => ((pre ++ [(x, y)]).flatMap (Plx.near a)).map nD := by
      refine List.map_congr_left fun k _ => ?_
      rw [List.flatMap_append, List.map_append]
      by_cases c1 : k = y
      · subst c1
        have c2 : ¬ x = k := by omega
        simp [Plx.near, c2]
      · by_cases c2 : k = x
        · subst c2
          have c3 : ¬ y = k := fun z => c1 z.symm
          simp [Plx.near, c1, c3]
        · have c3 : ¬ y = k := fun z => c1 z.symm
          have c4 : ¬ x = k := fun z => c2 z.symm
          simp [Plx.near, c1, c2, c3, c4]
    rw [← fin]
    simp [p2, p3]
    simp at e1 e2
    simp [e1, e2]
  · exact fun _ => ⟨.no, .no, rfl, rfl, by simp⟩
theorem law_sides_eq : G__law_sides = G_sides := rfl
end N

set_option Elab.async false
set_option linter.all false
set_option maxRecDepth 100000
set_option maxHeartbeats 400000
/-! M9: places, switches judged. -/
namespace N
open PySem
/-- neighbours of two in the row, ascending -/
def ascB (P : List Nat) : Bool := (List.range' 1 (P.length - 1)).all fun j => decide (P.getD (j - 1) 0 < P.getD j 0)
theorem ascB_iff {P : List Nat} : ascB P = true ↔ Plx.Asc P := by
  unfold ascB
  rw [List.all_eq_true]
  constructor
  · intro h
    have one : ∀ k, k + 1 < P.length → P.getD k 0 < P.getD (k + 1) 0 := fun k hk => by
      have z := h (k + 1) (List.mem_range'.mpr ⟨k, by omega, by omega⟩)
      simpa using z
    have go : ∀ d k, k + d + 1 < P.length → P.getD k 0 < P.getD (k + d + 1) 0 := fun d => by
      induction d with
      | zero => intro k hk; exact one k hk
      | succ d ih =>
        intro k hk
        have a := ih k (by omega)
        have b := one (k + d + 1) (by omega)
        have e : k + (d + 1) + 1 = k + d + 1 + 1 := by omega
        rw [e]
        omega
    refine List.pairwise_iff_getElem.mpr fun i j hi hj hij => ?_
    have z := go (j - i - 1) i (by omega)
    have e : i + (j - i - 1) + 1 = j := by omega
    rw [e] at z
    simpa [hi, hj] using z
  · intro h j hj
    rw [List.mem_range'] at hj
    obtain ⟨k, hk, rfl⟩ := hj
    have z := List.pairwise_iff_getElem.mp h k (1 + 1 * k) (by omega) (by omega) (by omega)
    have h1 : k < P.length := by omega
    have h2 : 1 + 1 * k < P.length := by omega
    have e : 1 + 1 * k - 1 = k := by omega
    have h3 : 1 + k < P.length := by omega
    simp only [e]
    simp [List.getD_eq_getElem?_getD, h1, h3]
    simpa using z
def someB (n : Nat) (P : List Nat) : Bool := P.all (fun x => decide (x < n)) && ascB P
theorem someB_iff {n : Nat} {P : List Nat} : someB n P = true ↔ (∀ x ∈ P, x < n) ∧ Plx.Asc P := by
  unfold someB
  rw [Bool.and_eq_true, ascB_iff, List.all_eq_true]
  simp
theorem is_some_ok {n : Nat} {w : PyData} {P : List Nat} (hl : P.length ≤ 1000) : G_is_some [.tuple [nD n, w], tN P] = some (.ok (.bool (someB n P))) := by
  have hl2 : P.length ≤ 100000 := by omega
  have e1 : lcGo (tgN 3) fYes (fAndV (fCall G_is_integer (fCons (fVar 3) fNil)) (fChain gLe gLt (fC (.int 0)) (fVar 3) (fOp gIx (fVar 0) (fC (.int 0))))) [3] (P.map nD) [.im (.tuple [nD n, w]), .im (tN P), .no, .no] = some (P.map fun x => .bool (decide (x < n)), [.im (.tuple [nD n, w]), .im (tN P), .no, .no]) := by
    refine lcGo_map fun x _ => ?_
    unfold lcStep
    simp
  have e2 : lcGo (tgN 2) fYes (fOp gLt (fOp gIx (fVar 1) (fOp gSubI (fVar 2) (fC (.int 1)))) (fOp gIx (fVar 1) (fVar 2))) [2] (rngD 1 (P.length - 1)) [.im (.tuple [nD n, w]), .im (tN P), .no, .no]
      = some ((List.range' 1 (P.length - 1)).map fun j => .bool (decide (P.getD (j - 1) 0 < P.getD j 0)), [.im (.tuple [nD n, w]), .im (tN P), .no, .no]) := by
    have r := rngD_nat 1 P.length
    rw [show ((1 : Nat) : Int) = 1 from rfl, show ((P.length : Int) - 1).toNat = P.length - 1 by omega] at r
    rw [r]
    refine lcGo_map fun i hi => ?_
    rw [List.mem_range'] at hi
    obtain ⟨k, hk, rfl⟩ := hi
    obtain ⟨j, hj⟩ : ∃ j, j = 1 + 1 * k := ⟨_, rfl⟩
    rw [← hj]
    have a1 : j < P.length := by omega
    have a3 : k < P.length := by omega
    have a2 : ((j : Nat) : Int) - 1 = ((k : Nat) : Int) := by omega
    have a4 : j - 1 = k := by omega
    have g1 : P[k]? = some P[k] := List.getElem?_eq_getElem a3
    have g2 : P[j]? = some P[j] := List.getElem?_eq_getElem a1
    unfold lcStep
    simp [a2, a4, g1, g2]
  have r1 : rgOk 1 (P.length : Int) = true := rgOk_small (by omega) (by omega) (by omega) (by omega)
  unfold G_is_some runP F_is_some start0
  have e3 : (∀ x ∈ P, x < n) ↔ P.all (fun x => decide (x < n)) = true := by simp
  simp [hl2, e1, e2, r1]
  unfold someB ascB
  cases c : P.all (fun x => decide (x < n)) with
  | false =>
    have c2 : ∃ x, x ∈ P ∧ n ≤ x := by simpa using c
    simp [c2]
  | true =>
    have c2 : ¬ ∃ x, x ∈ P ∧ n ≤ x := by simpa using c
    simp [c2, r1, e2, Function.comp_def]
/-! counts -/
def dinL (n : Nat) (A : Nat → Nat → Bool) (P : List Nat) (a : Nat) : Nat := ((Plx.rowN n A a).filter fun x => P.contains x).length
theorem dinL_eq {n : Nat} {A : Nat → Nat → Bool} {P : List Nat} {a : Nat} : dinL n A P a = Plx.din n A (fun k => P.contains k) a := by
  unfold dinL Plx.din Plx.cnt Plx.rowN
  rw [List.filter_filter]
def halfB (n : Nat) (A : Nat → Nat → Bool) (P : List Nat) (a : Nat) : Bool := decide (2 * dinL n A P a = P.length)
def swB (n : Nat) (A : Nat → Nat → Bool) (P : List Nat) : Bool := (P.all fun x => P.all fun y => decide (dinL n A P x = dinL n A P y)) && (List.range n).all fun a => P.contains a || (decide (dinL n A P a = 0) || decide (dinL n A P a = P.length) || halfB n A P a)
theorem swB_sw {n : Nat} {A : Nat → Nat → Bool} {P : List Nat} (w : Plx.Wb A) (ha : Plx.Asc P) (hb : ∀ x ∈ P, x < n) (hne : P ≠ []) (h : swB n A P = true) : Plx.Sw n A (fun k => P.contains k) := by
  unfold swB at h
  rw [Bool.and_eq_true, List.all_eq_true, List.all_eq_true] at h
  obtain ⟨h1, h2⟩ := h
  have hc := Plx.asc_cnt ha hb
  refine ⟨w.sym, ?_, fun i j hi hj pi pj => ?_, fun j hj pj => ?_⟩
  · rw [hc]
    exact List.length_pos_iff.mpr hne
  · have z := h1 i (by simpa using pi)
    rw [List.all_eq_true] at z
    have z2 := of_decide_eq_true (z j (by simpa using pj))
    rw [dinL_eq, dinL_eq] at z2
    exact z2
  · have z := h2 j (List.mem_range.mpr hj)
    unfold halfB at z
    rw [dinL_eq] at z
    rw [hc]
    simp only [pj, Bool.false_or, Bool.or_eq_true, decide_eq_true_eq] at z
    omega
/-- all are alike: least and greatest -/
theorem fold_max {l : List Int} {a : Int} : a ≤ l.foldl max a ∧ (∀ x ∈ l, x ≤ l.foldl max a) ∧ (l.foldl max a = a ∨ l.foldl max a ∈ l) := by
  induction l generalizing a with
  | nil => simp
  | cons b l ih =>
    obtain ⟨h1, h2, h3⟩ := ih (a := max a b)
    simp only [List.foldl_cons, List.mem_cons]
    refine ⟨by omega, fun x hx => ?_, ?_⟩
    · rcases hx with rfl | hx
      · omega
      · exact h2 x hx
    · rcases h3 with h3 | h3
      · rw [h3]
        by_cases c : a ≤ b
        · exact .inr (.inl (by omega))
        · exact .inl (by omega)
      · exact .inr (.inr h3)
theorem fold_min {l : List Int} {a : Int} : l.foldl min a ≤ a ∧ (∀ x ∈ l, l.foldl min a ≤ x) ∧ (l.foldl min a = a ∨ l.foldl min a ∈ l) := by
  induction l generalizing a with
  | nil => simp
  | cons b l ih =>
    obtain ⟨h1, h2, h3⟩ := ih (a := min a b)
    simp only [List.foldl_cons, List.mem_cons]
    refine ⟨by omega, fun x hx => ?_, ?_⟩
    · rcases hx with rfl | hx
      · omega
      · exact h2 x hx
    · rcases h3 with h3 | h3
      · rw [h3]
        by_cases c : a ≤ b
        · exact .inl (by omega)
        · exact .inr (.inl (by omega))
      · exact .inr (.inr h3)
theorem fold_alike {l : List Int} {a : Int} : (l.foldl min a = l.foldl max a) ↔ ∀ x ∈ l, x = a := by
  obtain ⟨h1, h2, h3⟩ := fold_max (l := l) (a := a)
  obtain ⟨k1, k2, k3⟩ := fold_min (l := l) (a := a)
  constructor
  · intro e x hx
    have := h2 x hx
    have := k2 x hx
    omega
  · intro h
    have e1 : l.foldl max a = a := by
      rcases h3 with h3 | h3
      · exact h3
      · exact h _ h3
    have e2 : l.foldl min a = a := by
      rcases k3 with h3 | h3
      · exact h3
      · exact h _ h3
    rw [e1, e2]
theorem rows_get {n : Nat} {A : Nat → Nat → Bool} {a : Nat} (h : a < n) : ((List.range n).map fun a => lN (Plx.rowN n A a))[a]? = some (lN (Plx.rowN n A a)) := get_map_range h
theorem row_len {n : Nat} {A : Nat → Nat → Bool} {a : Nat} : (Plx.rowN n A a).length ≤ n := by
  unfold Plx.rowN
  have := List.length_filter_le (A a) (List.range n)
  rwa [List.length_range] at this
end N

set_option Elab.async false
set_option linter.all false
set_option maxRecDepth 100000
set_option maxHeartbeats 1000000
/-! M10: is_switch, the law's own. -/
namespace N
open PySem
theorem wD_web {n : Nat} {A : Nat → Nat → Bool} (h1 : 1 ≤ n) (h2 : n ≤ 26) : G_is_web [wD n A] = some (.ok (.bool true)) := by
  have hl := Plx.ties_len (A := A) h2
  have z := is_web_ok (n : Int) ((Plx.ties n A).map fun p => ((p.1 : Int), (p.2 : Int))) (by omega) (by omega) (by rw [List.length_map]; omega) (fun t ht => ?_) (List.pairwise_map.mpr (Plx.asc_ties.imp fun {p q} h => ?_))
  · unfold encW at z
    rw [List.map_map] at z
    exact z
  · obtain ⟨p, hp, rfl⟩ := List.mem_map.mp ht
    obtain ⟨⟨a, b⟩, _⟩ := Plx.mem_ties.mp hp
    unfold tieB
    simp
    omega
  · unfold ltP
    unfold Plx.ltN at h
    simp
    omega
theorem wD_need {n : Nat} {A : Nat → Nat → Bool} (h1 : 1 ≤ n) (h2 : n ≤ 26) (nm : Str) : G_need_web [wD n A, .str nm, .int 26] = some (.ok .none) := by
  have hw := wD_web (A := A) h1 h2
  have c : ¬ (26 : Int) < (n : Int) := by omega
  unfold G_need_web runP F_need_web start0
  simp [hw, c]
theorem eqvIN (i : Int) (j : Nat) : PyData.eqv (.int i) (nD j) = decide (i = (j : Int)) := eqvI _ _
/-- x in (0, y) -/
theorem gIn_two {x y : Nat} {b : Bool} : gIn b (nD x) (.tuple [.int 0, nD y]) = some (.bool (if b then !(decide (x = 0) || decide (x = y)) else (decide (x = 0) || decide (x = y)))) := by
  have z := gInN_t (b := b) (x := x) (l := [0, y])
  rw [show tN [0, y] = .tuple [.int 0, nD y] from rfl] at z
  rw [z]
  cases b <;> simp
theorem gMulN {k : Nat} : gMul (.int 2) (nD k) = some (nD (2 * k)) := by
  unfold gMul small64
  simp
abbrev sw0 (n : Nat) (A : Nat → Nat → Bool) (P : List Nat) : List PyData := (List.range n).map fun a => nD (dinL n A P a)
theorem minOf_sw {f : Nat → Nat} {x : Nat} {P : List Nat} : ∃ i : Int, minOf (nD (f x) :: P.map fun a => nD (f a)) = some (.int i) ∧ i = (P.map fun a => ((f a : Nat) : Int)).foldl min (f x : Int) := by
  refine ⟨_, ?_, rfl⟩
  have e := intsOf_mapF (fun a => ((f a : Nat) : Int)) (x :: P)
  unfold minOf
  rw [show (nD (f x) :: P.map fun a => nD (f a)) = (x :: P).map fun a => .int ((f a : Nat) : Int) from rfl, e]
  rfl
theorem maxOf_sw {f : Nat → Nat} {x : Nat} {P : List Nat} : ∃ i : Int, maxOf (nD (f x) :: P.map fun a => nD (f a)) = some (.int i) ∧ i = (P.map fun a => ((f a : Nat) : Int)).foldl max (f x : Int) := by
  refine ⟨_, ?_, rfl⟩
  have e := intsOf_mapF (fun a => ((f a : Nat) : Int)) (x :: P)
  unfold maxOf
  rw [show (nD (f x) :: P.map fun a => nD (f a)) = (x :: P).map fun a => .int ((f a : Nat) : Int) from rfl, e]
  rfl
theorem alike_iff {f : Nat → Nat} {P : List Nat} {x : Nat} : (∀ i ∈ P.map fun a => ((f a : Nat) : Int), i = (f x : Int)) ↔ ((x :: P).all fun a => (x :: P).all fun b => decide (f a = f b)) = true := by
  simp only [List.all_eq_true, decide_eq_true_eq]
  constructor
  · intro h
    have k : ∀ a ∈ x :: P, f a = f x := fun a ha => by
      rcases List.mem_cons.mp ha with rfl | ha
      · rfl
      · have := h _ (List.mem_map.mpr ⟨a, ha, rfl⟩)
        omega
    intro a ha b hb
    rw [k a ha, k b hb]
  · intro h i hi
    obtain ⟨a, ha, rfl⟩ := List.mem_map.mp hi
    rw [h a (List.mem_cons_of_mem _ ha) x List.mem_cons_self]
@[simp] theorem gMin_l {ds : List PyData} : gMin (.list ds) = minOf ds := rfl
@[simp] theorem gMax_l {ds : List PyData} : gMax (.list ds) = maxOf ds := rfl
@[simp] theorem gMin_t {ds : List PyData} : gMin (.tuple ds) = minOf ds := rfl
@[simp] theorem gMax_t {ds : List PyData} : gMax (.tuple ds) = maxOf ds := rfl
theorem min_max_sw {f : Nat → Nat} {P : List Nat} (h : P ≠ []) : ∃ i j : Int, minOf (P.map fun a => nD (f a)) = some (.int i) ∧ maxOf (P.map fun a => nD (f a)) = some (.int j) ∧ (i = j ↔ (P.all fun a => P.all fun b => decide (f a = f b)) = true) := by
  cases P with
  | nil => exact absurd rfl h
  | cons p P =>
    obtain ⟨i, i1, i2⟩ := minOf_sw (f := f) (x := p) (P := P)
    obtain ⟨j, j1, j2⟩ := maxOf_sw (f := f) (x := p) (P := P)
    have al := fold_alike (l := P.map fun a => ((f a : Nat) : Int)) (a := (f p : Int))
    rw [← i2, ← j2, alike_iff] at al
    exact ⟨i, j, i1, j1, al⟩
theorem is_switch_ok {n : Nat} {A : Nat → Nat → Bool} {P : List Nat} (h1 : 1 ≤ n) (h2 : n ≤ 26) (w : Plx.Wb A) (hl : P.length ≤ 1000) (hne : P ≠ []) : G_is_switch [wD n A, tN P] = some (.ok (.bool (someB n P && swB n A P))) := by
  have hs := sides_ok w h2
  have hn := wD_need (A := A) h1 h2 "web"
  have hi := is_some_ok (n := n) (w := .tuple ((Plx.ties n A).map pD)) hl
  have hr : rgOk 0 (n : Int) = true := rgOk_nat0 (by omega)
  have hl2 : P.length ≤ 100000 := by omega
  unfold G_is_switch runP F_is_switch start0
  simp only [sSeq_e]
  unfold sCallX
  cases hb : someB n P with
  | false =>
    rw [hb] at hi
    simp [hn, hi]
  | true =>
    rw [hb] at hi
    obtain ⟨b1, b2⟩ := someB_iff.mp hb
    have own : lcGo (tgN 5) fYes (fUn gLen (fLc (fSeq (fOp gIx (fVar 2) (fVar 5))) (tgN 6) (fB (fOp (gIn false) (fVar 6) (fVar 1))) (fVar 6) [6])) [5] ((List.range n).map nD) [.im (wD n A), .im (tN P), .im (rowsD n A), .no, .no, .no, .no]
        = some ((List.range n).map fun a => nD (dinL n A P a), [.im (wD n A), .im (tN P), .im (rowsD n A), .no, .no, .no, .no]) := by
      refine lcGo_map fun a ha => ?_
      have hg : (List.range n)[a]? = some a := List.getElem?_range (List.mem_range.mp ha)
      have hrl : (Plx.rowN n A a).length ≤ 100000 := by have := row_len (n := n) (A := A) (a := a); omega
      have inn : lcGo (tgN 6) (fB (fOp (gIn false) (fVar 6) (fVar 1))) (fVar 6) [6] ((Plx.rowN n A a).map nD) [.im (wD n A), .im (tN P), .im (rowsD n A), .no, .no, .im (nD a), .no] = some (((Plx.rowN n A a).filter fun x => P.contains x).map nD, [.im (wD n A), .im (tN P), .im (rowsD n A), .no, .no, .im (nD a), .no]) := by
        refine lcGo_filter fun x _ => ?_
        unfold lcStep
        simp [gInN_t]
        split <;> simp
      unfold lcStep
      simp only [rowsD] at inn ⊢
      simp [hg, hrl, inn, dinL]
    have ins : lcGo (tgN 5) fYes (fOp gIx (fVar 3) (fVar 5)) [5] (P.map nD) [.im (wD n A), .im (tN P), .im (rowsD n A), .im (.list (sw0 n A P)), .no, .no, .no] = some (P.map fun a => nD (dinL n A P a), [.im (wD n A), .im (tN P), .im (rowsD n A), .im (.list (sw0 n A P)), .no, .no, .no]) := by
      refine lcGo_map fun a ha => ?_
      have hg : (List.range n)[a]? = some a := List.getElem?_range (b1 a ha)
      unfold lcStep
      simp [hg]
    have las : ∀ s4 : PyData, lcGo (tgN 5) fYes (fOrV (fOp (gIn false) (fVar 5) (fVar 1)) (fOrV (fOp (gIn false) (fOp gIx (fVar 3) (fVar 5)) (fTup (fCons (fC (.int 0)) (fCons (fUn gLen (fVar 1)) (fNil))))) (fOp gEq (fOp gMul (fC (.int 2)) (fOp gIx (fVar 3) (fVar 5))) (fUn gLen (fVar 1))))) [5] ((List.range n).map nD) [.im (wD n A), .im (tN P), .im (rowsD n A), .im (.list (sw0 n A P)), .im s4, .no, .no]
        = some ((List.range n).map fun a => .bool (P.contains a || (decide (dinL n A P a = 0) || decide (dinL n A P a = P.length) || halfB n A P a)), [.im (wD n A), .im (tN P), .im (rowsD n A), .im (.list (sw0 n A P)), .im s4, .no, .no]) := fun s4 => by
      refine lcGo_map fun a ha => ?_
      have hg : (List.range n)[a]? = some a := List.getElem?_range (List.mem_range.mp ha)
      have two := gIn_two (x := dinL n A P a) (y := P.length) (b := false)
      unfold lcStep
      simp only [Bool.false_eq_true, if_false] at two
      simp [-Option.map_eq_some_iff, gInN_t, hg]
      by_cases c1 : a ∈ P
      · simp [-Option.map_eq_some_iff, c1]
      · simp [-Option.map_eq_some_iff, c1, two, hg]
        by_cases c2 : dinL n A P a = 0
        · simp [-Option.map_eq_some_iff, c2, hg]
        · by_cases c3 : dinL n A P a = P.length
          · simp [-Option.map_eq_some_iff, c3, hg]
          · simp [-Option.map_eq_some_iff, c2, c3, gMulN, halfB, hg]
            omega
    obtain ⟨i, j, i1, j1, al⟩ := min_max_sw (f := dinL n A P) hne
    simp [-Option.map_eq_some_iff, hn, hi, hs, hr, rngD_n0, hne, hl2, Function.comp_def, own, ins, las]
    by_cases c : i = j
    · have al2 := al.mp c
      simp [-Option.map_eq_some_iff, i1, j1, c, hr, rngD_n0, las, Function.comp_def]
      unfold swB
      rw [al2]
      simp
    · have al2 : (P.all fun a => P.all fun b => decide (dinL n A P a = dinL n A P b)) = false := Bool.eq_false_iff.mpr fun z => c (al.mpr z)
      simp [-Option.map_eq_some_iff, i1, j1, c]
      unfold swB
      rw [al2]
      rfl
end N

set_option Elab.async false
set_option linter.all false
set_option maxRecDepth 100000
set_option maxHeartbeats 1000000
/-! M11: the law's own look at a switch. -/
namespace N
open PySem
/-- a row of naturals, a list or a tuple -/
structure RowN (D : PyData) (P : List Nat) : Prop where
  len : gLen D = some (nD P.length)
  inn : ∀ b x, gIn b (nD x) D = some (.bool (if b = true then !P.contains x else P.contains x))
  ix : gIx D (.int 0) = (P.map nD)[0]?
  seq : seqOf D = some (P.map nD)
theorem RowN.t (P : List Nat) : RowN (tN P) P := ⟨by simp, fun _ _ => gInN_t, by rw [gIx_t, show (0 : Int) = ((0 : Nat) : Int) from rfl, atI_nat], rfl⟩
theorem RowN.l (P : List Nat) : RowN (lN P) P := ⟨by simp, fun _ _ => gInN_l, by rw [gIx_l, show (0 : Int) = ((0 : Nat) : Int) from rfl, atI_nat], rfl⟩
theorem own_switch_ok {n : Nat} {A : Nat → Nat → Bool} {D : PyData} {P : List Nat} (R : RowN D P) (h2 : n ≤ 26) (w : Plx.Wb A) (hl : P.length ≤ 1000) (hb : ∀ x ∈ P, x < n) : G__law_is_own_switch [wD n A, D] = some (.ok (.bool (decide (P ≠ []) && swB n A P))) := by
  have hs := sides_ok w h2
  rw [← law_sides_eq] at hs
  have hr : rgOk 0 (n : Int) = true := rgOk_nat0 (by omega)
  have hl2 : P.length ≤ 100000 := by omega
  have own : lcGo (tgN 4) fYes (fUn gLen (fLc (fSeq (fOp gIx (fVar 2) (fVar 4))) (tgN 5) (fB (fOp (gIn false) (fVar 5) (fVar 1))) (fVar 5) [5])) [4] ((List.range n).map nD) [.im (wD n A), .im D, .im (rowsD n A), .no, .no, .no]
      = some ((List.range n).map fun a => nD (dinL n A P a), [.im (wD n A), .im D, .im (rowsD n A), .no, .no, .no]) := by
    refine lcGo_map fun a ha => ?_
    have hg : (List.range n)[a]? = some a := List.getElem?_range (List.mem_range.mp ha)
    have hrl : (Plx.rowN n A a).length ≤ 100000 := by have := row_len (n := n) (A := A) (a := a); omega
    have inn : lcGo (tgN 5) (fB (fOp (gIn false) (fVar 5) (fVar 1))) (fVar 5) [5] ((Plx.rowN n A a).map nD) [.im (wD n A), .im D, .im (rowsD n A), .no, .im (nD a), .no] = some (((Plx.rowN n A a).filter fun x => P.contains x).map nD, [.im (wD n A), .im D, .im (rowsD n A), .no, .im (nD a), .no]) := by
      refine lcGo_filter fun x _ => ?_
      unfold lcStep
      simp [R.inn]
      split <;> simp
    unfold lcStep
    simp only [rowsD] at inn ⊢
    simp [hg, hrl, inn, dinL]
  unfold G__law_is_own_switch runP F__law_is_own_switch start0
  simp only [sSeq_e]
  cases P with
  | nil => simp [-Option.map_eq_some_iff, hs, hr, rngD_n0, own, R.len]
  | cons p P =>
    have hp := List.getElem?_range (hb p List.mem_cons_self)
    have dif : lcGo (tgN 4) (fB (fOp gNe (fOp gIx (fVar 3) (fVar 4)) (fOp gIx (fVar 3) (fOp gIx (fVar 1) (fC (.int 0)))))) (fVar 4) [4] ((p :: P).map nD) [.im (wD n A), .im D, .im (rowsD n A), .im (.list (sw0 n A (p :: P))), .no, .no]
        = some (((p :: P).filter fun x => !decide (dinL n A (p :: P) x = dinL n A (p :: P) p)).map nD, [.im (wD n A), .im D, .im (rowsD n A), .im (.list (sw0 n A (p :: P))), .no, .no]) := by
      refine lcGo_filter fun x hx => ?_
      have hg := List.getElem?_range (hb x hx)
      have hd : (decide ((dinL n A (p :: P) x : Int) = (dinL n A (p :: P) p : Int))) = decide (dinL n A (p :: P) x = dinL n A (p :: P) p) := decide_eq_decide.mpr (by omega)
      unfold lcStep
      simp only [sw0] at *
      simp [-Option.map_eq_some_iff, hg, hp, R.ix, gNeI, -List.map_cons]
      by_cases c : dinL n A (p :: P) x = dinL n A (p :: P) p <;> simp [c]
      omega
    have las : lcGo (tgN 4) (fAnd (fB (fOp (gIn true) (fVar 4) (fVar 1))) (fAnd (fB (fOp (gIn true) (fOp gIx (fVar 3) (fVar 4)) (fTup (fCons (fC (.int 0)) (fCons (fUn gLen (fVar 1)) (fNil)))))) (fB (fOp gNe (fOp gMul (fC (.int 2)) (fOp gIx (fVar 3) (fVar 4))) (fUn gLen (fVar 1)))))) (fVar 4) [4] ((List.range n).map nD) [.im (wD n A), .im D, .im (rowsD n A), .im (.list (sw0 n A (p :: P))), .no, .no]
        = some (((List.range n).filter fun a => !((p :: P).contains a || (decide (dinL n A (p :: P) a = 0) || decide (dinL n A (p :: P) a = (p :: P).length) || halfB n A (p :: P) a))).map nD, [.im (wD n A), .im D, .im (rowsD n A), .im (.list (sw0 n A (p :: P))), .no, .no]) := by
      refine lcGo_filter fun a ha => ?_
      have hg := List.getElem?_range (List.mem_range.mp ha)
      have two := gIn_two (x := dinL n A (p :: P) a) (y := (p :: P).length) (b := true)
      have inn := R.inn true a
      have len := R.len
      obtain ⟨m, hm⟩ : ∃ m, m = (p :: P).length := ⟨_, rfl⟩
      rw [← hm] at two len ⊢
      simp only [if_true] at two inn
      unfold lcStep halfB
      rw [← hm]
      simp only [sw0]
      cases c1 : (p :: P).contains a with
      | true =>
        rw [c1] at inn
        simp [-Option.map_eq_some_iff, inn, hg]
      | false =>
        rw [c1] at inn
        simp [-Option.map_eq_some_iff, inn, hg, len, two]
        by_cases c2 : dinL n A (p :: P) a = 0
        · simp [-Option.map_eq_some_iff, c2]
        · by_cases c3 : dinL n A (p :: P) a = m
          · simp [-Option.map_eq_some_iff, c3]
          · simp [-Option.map_eq_some_iff, c2, c3, gMulN, hg, len]
            by_cases c4 : 2 * dinL n A (p :: P) a = m
            · have c5 : 2 * (dinL n A (p :: P) a : Int) = (m : Int) := by omega
              simp [-Option.map_eq_some_iff, c4, c5]
            · have c5 : ¬ 2 * (dinL n A (p :: P) a : Int) = (m : Int) := by omega
              simp [-Option.map_eq_some_iff, c4, c5]
    have c0 : ¬ ((P.length : Int) + 1 = 0) := by omega
    have hl3 : P.length ≤ 99999 := by
      rw [List.length_cons] at hl2
      omega
    have e1 : ((p :: P).all fun x => (p :: P).all fun y => decide (dinL n A (p :: P) x = dinL n A (p :: P) y)) = (((p :: P).filter fun x => !decide (dinL n A (p :: P) x = dinL n A (p :: P) p)).isEmpty) := by
      rw [Bool.eq_iff_iff, List.isEmpty_iff, List.filter_eq_nil_iff]
      simp only [List.all_eq_true, decide_eq_true_eq]
      constructor
      · intro h a ha
        simp [h a ha p List.mem_cons_self]
      · intro h a ha b hb
        have h1 := h a ha
        have h2 := h b hb
        simp at h1 h2
        rw [h1, h2]
    have e2 : ∀ f : Nat → Bool, (List.range n).all f = ((List.range n).filter fun a => !f a).isEmpty := fun f => by
      rw [Bool.eq_iff_iff, List.isEmpty_iff, List.filter_eq_nil_iff]
      simp only [List.all_eq_true]
      constructor
      · intro h a ha
        rw [h a ha]
        simp
      · intro h a ha
        have h1 := h a ha
        simpa using h1
    unfold swB
    rw [e1, e2]
    obtain ⟨l1, hl1⟩ : ∃ l, l = ((p :: P).filter fun x => !decide (dinL n A (p :: P) x = dinL n A (p :: P) p)) := ⟨_, rfl⟩
    obtain ⟨l2, hl2⟩ : ∃ l, l = ((List.range n).filter fun a => !((p :: P).contains a || (decide (dinL n A (p :: P) a = 0) || decide (dinL n A (p :: P) a = (p :: P).length) || halfB n A (p :: P) a))) := ⟨_, rfl⟩
    rw [← hl1] at dif ⊢
    rw [← hl2] at las ⊢
    simp only [List.map_cons] at dif
    simp [-Option.map_eq_some_iff, hs, hr, rngD_n0, own, R.len, c0, R.seq, hl3, dif]
    cases l1 with
    | nil =>
      simp [-Option.map_eq_some_iff, hr, rngD_n0, las]
      cases l2 <;> simp
    | cons a l1 =>
      have c1 : (0 : Int) < (l1.length : Int) + 1 := by omega
      simp [-Option.map_eq_some_iff, c1]
end N

set_option Elab.async false
set_option linter.all false
set_option maxRecDepth 100000
set_option maxHeartbeats 1000000
/-! M12: switched. -/
namespace N
open PySem
/-- places tied to half of the set -/
def half (n : Nat) (A : Nat → Nat → Bool) (P : List Nat) : List Nat := (List.range n).filter fun a => !P.contains a && halfB n A P a
def crossB (P H : List Nat) (t : Nat × Nat) : Bool := (P.contains t.1 && H.contains t.2) || (P.contains t.2 && H.contains t.1)
theorem crossing_ok {P H : List Nat} {t : Nat × Nat} : G_is_crossing [pD t, tN P, lN H] = some (.ok (.bool (crossB P H t))) := by
  unfold G_is_crossing runP F_is_crossing start0 crossB
  simp [-Option.map_eq_some_iff, gInN_t, gInN_l]
  by_cases c1 : t.1 ∈ P <;> by_cases c2 : t.2 ∈ P <;> by_cases c3 : t.1 ∈ H <;> by_cases c4 : t.2 ∈ H <;> simp [-Option.map_eq_some_iff, c1, c2, c3, c4, gInN_t, gInN_l]
/-- what is added at one place -/
def addP (n : Nat) (A : Nat → Nat → Bool) (P : List Nat) (a : Nat) : List (Nat × Nat) := (P.filter fun x => !(Plx.rowN n A a).contains x).map fun x => (min a x, max a x)
def newT (n : Nat) (A : Nat → Nat → Bool) (P : List Nat) : List (Nat × Nat) := (Plx.ties n A).filter (fun t => !crossB P (half n A P) t) ++ (half n A P).flatMap (addP n A P)
@[simp] theorem gMin2N {a b : Nat} : gMin2 [nD a, nD b] = some (nD (min a b)) := by
  unfold gMin2 nD
  by_cases h : b < a
  · have e : min a b = b := by omega
    have h' : (b : Int) < (a : Int) := by omega
    simp [h', e]
  · have e : min a b = a := by omega
    have h' : ¬ (b : Int) < (a : Int) := by omega
    simp [h', e]
@[simp] theorem gMax2N {a b : Nat} : gMax2 [nD a, nD b] = some (nD (max a b)) := by
  unfold gMax2 nD
  by_cases h : a < b
  · have e : max a b = b := by omega
    have h' : (a : Int) < (b : Int) := by omega
    simp [h', e]
  · have e : max a b = a := by omega
    have h' : ¬ (a : Int) < (b : Int) := by omega
    simp [h', e]
theorem half_len {n : Nat} {A : Nat → Nat → Bool} {P : List Nat} : (half n A P).length ≤ n := by
  unfold half
  have := List.length_filter_le (fun a => !P.contains a && halfB n A P a) (List.range n)
  rwa [List.length_range] at this
theorem mem_half {n : Nat} {A : Nat → Nat → Bool} {P : List Nat} {a : Nat} : a ∈ half n A P ↔ a < n ∧ P.contains a = false ∧ 2 * dinL n A P a = P.length := by
  unfold half halfB
  simp
theorem mem_row {n : Nat} {A : Nat → Nat → Bool} {a x : Nat} : x ∈ Plx.rowN n A a ↔ x < n ∧ A a x = true := by
  unfold Plx.rowN
  simp
theorem mem_newT {n : Nat} {A : Nat → Nat → Bool} {P : List Nat} (w : Plx.Wb A) (ha : Plx.Asc P) (hb : ∀ x ∈ P, x < n) (t : Nat × Nat) : t ∈ newT n A P ↔ t ∈ Plx.ties n (Plx.sw n A fun k => P.contains k) := by
  obtain ⟨x, y⟩ := t
  have hc := Plx.asc_cnt ha hb
  have hh : ∀ a, a < n → (a ∈ half n A P ↔ (fun k => P.contains k) a = false ∧ 2 * Plx.din n A (fun k => P.contains k) a = Plx.cnt n (fun k => P.contains k)) := fun a h => by
    rw [mem_half, dinL_eq, hc]
    simp [h]
  unfold newT
  rw [List.mem_append, List.mem_filter, List.mem_flatMap, Plx.mem_ties, Plx.mem_ties]
  constructor
  · rintro (⟨⟨⟨h1, h2⟩, h3⟩, h4⟩ | ⟨a, h1, h2⟩)
    · refine ⟨⟨h1, h2⟩, ?_⟩
      simp at h1 h2 h3
      unfold crossB at h4
      simp at h4
      obtain ⟨h4, h5⟩ := h4
      unfold Plx.sw
      simp only
      rw [if_neg, if_neg]
      · exact h3
      · rintro ⟨p1, p2⟩
        exact h5.elim (fun z => z (by simpa using p1)) (fun z => z ((hh x (by omega)).mpr p2))
      · rintro ⟨p1, p2⟩
        exact h4.elim (fun z => z (by simpa using p1)) (fun z => z ((hh y (by omega)).mpr p2))
    · unfold addP at h2
      obtain ⟨b, h3, h4⟩ := List.mem_map.mp h2
      obtain ⟨h5, h6⟩ := List.mem_filter.mp h3
      obtain ⟨k1, k2, k3⟩ := mem_half.mp h1
      have kb := hb b h5
      have ne : a ≠ b := fun e => by
        subst e
        simp at k2
        exact k2 h5
      have hAb : A a b = false := by
        have z : b ∉ Plx.rowN n A a := by simpa using h6
        rw [mem_row] at z
        cases e : A a b with
        | true => exact absurd ⟨kb, e⟩ z
        | false => rfl
      have hs : Plx.sw n A (fun k => P.contains k) b a = true := by
        have z := (hh a k1).mp h1
        rw [Plx.sw_io (by simpa using h5) z.1, if_pos z.2, w.sym, hAb]
        rfl
      have hs2 : Plx.sw n A (fun k => P.contains k) a b = true := by rw [Plx.sw_sym w.sym]; exact hs
      cases h4
      simp only
      refine ⟨by omega, ?_⟩
      by_cases c : a ≤ b
      · rw [Nat.min_eq_left c, Nat.max_eq_right c]
        exact hs2
      · rw [Nat.min_eq_right (by omega), Nat.max_eq_left (by omega)]
        exact hs
  · rintro ⟨⟨h1, h2⟩, h3⟩
    simp only at h1 h2 h3
    have hx : x < n := by omega
    have hy : y < n := by omega
    unfold Plx.sw at h3
    split at h3
    · rename_i c
      refine .inr ⟨y, (hh y hy).mpr c.2, ?_⟩
      unfold addP
      refine List.mem_map.mpr ⟨x, List.mem_filter.mpr ⟨by simpa using c.1, ?_⟩, by rw [Nat.min_eq_right (by omega), Nat.max_eq_left (by omega)]⟩
      have z : A y x = false := by rw [w.sym]; simpa using h3
      have z2 : x ∉ Plx.rowN n A y := fun q => by
        rw [mem_row, z] at q
        cases q.2
      simpa using z2
    · rename_i c1
      split at h3
      · rename_i c
        refine .inr ⟨x, (hh x hx).mpr c.2, ?_⟩
        unfold addP
        refine List.mem_map.mpr ⟨y, List.mem_filter.mpr ⟨by simpa using c.1, ?_⟩, by rw [Nat.min_eq_left (by omega), Nat.max_eq_right (by omega)]⟩
        have z : A x y = false := by simpa using h3
        have z2 : y ∉ Plx.rowN n A x := fun q => by
          rw [mem_row, z] at q
          cases q.2
        simpa using z2
      · rename_i c2
        refine .inl ⟨⟨⟨h1, h2⟩, h3⟩, ?_⟩
        unfold crossB
        simp
        refine ⟨Decidable.not_and_iff_or_not.mp fun ⟨p, q⟩ => c1 ⟨by simpa using p, (hh y hy).mp q⟩, Decidable.not_and_iff_or_not.mp fun ⟨p, q⟩ => c2 ⟨by simpa using p, (hh x hx).mp q⟩⟩
theorem nd_newT {n : Nat} {A : Nat → Nat → Bool} {P : List Nat} (ha : Plx.Asc P) : (newT n A P).Nodup := by
  unfold newT
  have ndH : (half n A P).Nodup := Plx.asc_nodup (Plx.asc_range.filter _)
  have key : ∀ a b x y, a ∈ half n A P → b ∈ half n A P → x ∈ P → y ∈ P → (min a x, max a x) = (min b y, max b y) → a = b ∧ x = y := by
    intro a b x y h1 h2 h3 h4 e
    have e1 : min a x = min b y := congrArg Prod.fst e
    have e2 : max a x = max b y := congrArg Prod.snd e
    have q1 := (mem_half.mp h1).2.1
    have q2 := (mem_half.mp h2).2.1
    by_cases c : a = b
    · refine ⟨c, ?_⟩
      omega
    · exfalso
      have z : a = y ∧ x = b := by omega
      rw [z.1] at q1
      simp at q1
      exact q1 h4
  refine List.nodup_append.mpr ⟨(Plx.ascP_nodup Plx.asc_ties).filter _, ?_, ?_⟩
  · rw [List.flatMap_def, List.nodup_iff_pairwise_ne, List.pairwise_flatten]
    refine ⟨fun l hl => ?_, List.pairwise_map.mpr ?_⟩
    · obtain ⟨a, h1, rfl⟩ := List.mem_map.mp hl
      unfold addP
      refine List.pairwise_map.mpr (((Plx.asc_nodup ha).filter _).imp_of_mem fun {x y} hx hy ne e => ?_)
      exact ne (key a a x y h1 h1 (List.mem_filter.mp hx).1 (List.mem_filter.mp hy).1 e).2
    · refine ndH.imp_of_mem fun {a b} h1 h2 ne u hu v hv e => ?_
      unfold addP at hu hv
      obtain ⟨x, hx, rfl⟩ := List.mem_map.mp hu
      obtain ⟨y, hy, e2⟩ := List.mem_map.mp hv
      exact ne (key a b x y h1 h2 (List.mem_filter.mp hx).1 (List.mem_filter.mp hy).1 (e.trans e2.symm)).1
  · intro t ht u hu e
    subst e
    obtain ⟨_, h4⟩ := List.mem_filter.mp ht
    obtain ⟨a, h1, h2⟩ := List.mem_flatMap.mp hu
    unfold addP at h2
    obtain ⟨b, h3, rfl⟩ := List.mem_map.mp h2
    have h5 := (List.mem_filter.mp h3).1
    unfold crossB at h4
    by_cases c : a ≤ b
    · rw [Nat.min_eq_left c, Nat.max_eq_right c] at h4
      simp [h1, h5] at h4
    · rw [Nat.min_eq_right (by omega), Nat.max_eq_left (by omega)] at h4
      simp [h1, h5] at h4
theorem sort_newT {n : Nat} {A : Nat → Nat → Bool} {P : List Nat} (w : Plx.Wb A) (ha : Plx.Asc P) (hb : ∀ x ∈ P, x < n) : gSortL ((newT n A P).map pD) = some (.list ((Plx.ties n (Plx.sw n A fun k => P.contains k)).map pD)) := by
  obtain ⟨m, h1, h2, h3⟩ := gSortL_pairs (newT n A P)
  rw [h3]
  congr 2
  rw [Plx.ascP_eq (l := m) (m := Plx.ties n (Plx.sw n A fun k => P.contains k)) (Plx.ascP_of h2 (h1.nodup_iff.mpr (nd_newT ha))) Plx.asc_ties fun t => by rw [h1.mem_iff, mem_newT w ha hb]]
end N

set_option Elab.async false
set_option linter.all false
set_option maxRecDepth 100000
set_option maxHeartbeats 1000000
/-! M13: switched, by the program and by the law. -/
namespace N
open PySem
theorem addP_len {n : Nat} {A : Nat → Nat → Bool} {P : List Nat} {a : Nat} : (addP n A P a).length ≤ P.length := by
  unfold addP
  rw [List.length_map]
  exact List.length_filter_le _ _
@[simp] theorem gSorted_l {ds : List PyData} : gSorted (.list ds) = gSortL ds := rfl
@[simp] theorem gSorted_t {ds : List PyData} : gSorted (.tuple ds) = gSortL ds := rfl
theorem switched_no {n : Nat} {A : Nat → Nat → Bool} {D : PyData} (h1 : 1 ≤ n) (h2 : n ≤ 26) (h : G_is_switch [wD n A, D] = some (.ok (.bool false))) : G_switched [wD n A, D] = some (.bad "places") := by
  have hn := wD_need (A := A) h1 h2 "web"
  have r := @sRaise_str (fC (.str "places")) [.im (wD n A), .im D, .no, .no, .no, .no, .no, .no, .no] "places" [.im (wD n A), .im D, .no, .no, .no, .no, .no, .no, .no] rfl (by decide)
  unfold G_switched runP F_switched start0
  simp only [sSeq_e]
  unfold sCallX
  simp [hn, h, r]
theorem switched_ok {n : Nat} {A : Nat → Nat → Bool} {P : List Nat} (h1 : 1 ≤ n) (h2 : n ≤ 26) (w : Plx.Wb A) (ha : Plx.Asc P) (hb : ∀ x ∈ P, x < n) (hne : P ≠ []) (hsw : swB n A P = true) : G_switched [wD n A, tN P] = some (.ok (wD n (Plx.sw n A fun k => P.contains k))) := by
  have hl : P.length ≤ 26 := Nat.le_trans (Plx.asc_le ha hb) h2
  have hi := is_switch_ok h1 h2 w (by omega) hne
  rw [hsw, someB_iff.mpr ⟨hb, ha⟩] at hi
  have hs := sides_ok w h2
  have hn := wD_need (A := A) h1 h2 "web"
  have hr : rgOk 0 (n : Int) = true := rgOk_nat0 (by omega)
  have hl2 : P.length ≤ 100000 := by omega
  have htl := Plx.ties_len (A := A) h2
  have htl2 : (Plx.ties n A).length ≤ 100000 := by omega
  have hhl := half_len (n := n) (A := A) (P := P)
  have hhl2 : (half n A P).length ≤ 100000 := by omega
  have own : lcGo (tgN 6) fYes (fUn gLen (fLc (fSeq (fOp gIx (fVar 2) (fVar 6))) (tgN 8) (fB (fOp (gIn false) (fVar 8) (fVar 1))) (fVar 8) [8])) [6] ((List.range n).map nD) [.im (wD n A), .im (tN P), .im (rowsD n A), .no, .no, .no, .no, .no, .no]
      = some ((List.range n).map fun a => nD (dinL n A P a), [.im (wD n A), .im (tN P), .im (rowsD n A), .no, .no, .no, .no, .no, .no]) := by
    refine lcGo_map fun a ha => ?_
    have hg : (List.range n)[a]? = some a := List.getElem?_range (List.mem_range.mp ha)
    have hrl : (Plx.rowN n A a).length ≤ 100000 := by have := row_len (n := n) (A := A) (a := a); omega
    have inn : lcGo (tgN 8) (fB (fOp (gIn false) (fVar 8) (fVar 1))) (fVar 8) [8] ((Plx.rowN n A a).map nD) [.im (wD n A), .im (tN P), .im (rowsD n A), .no, .no, .no, .im (nD a), .no, .no] = some (((Plx.rowN n A a).filter fun x => P.contains x).map nD, [.im (wD n A), .im (tN P), .im (rowsD n A), .no, .no, .no, .im (nD a), .no, .no]) := by
      refine lcGo_filter fun x _ => ?_
      unfold lcStep
      simp [gInN_t]
      split <;> simp
    unfold lcStep
    simp only [rowsD] at inn ⊢
    simp [hg, hrl, inn, dinL]
  have hal : lcGo (tgN 6) (fAnd (fB (fOp (gIn true) (fVar 6) (fVar 1))) (fB (fOp gEq (fOp gMul (fC (.int 2)) (fOp gIx (fVar 3) (fVar 6))) (fUn gLen (fVar 1))))) (fVar 6) [6] ((List.range n).map nD) [.im (wD n A), .im (tN P), .im (rowsD n A), .im (.list (sw0 n A P)), .no, .no, .no, .no, .no]
      = some ((half n A P).map nD, [.im (wD n A), .im (tN P), .im (rowsD n A), .im (.list (sw0 n A P)), .no, .no, .no, .no, .no]) := by
    refine lcGo_filter (p := fun a => !P.contains a && halfB n A P a) fun a ha => ?_
    have hg : (List.range n)[a]? = some a := List.getElem?_range (List.mem_range.mp ha)
    unfold lcStep halfB
    simp only [sw0]
    simp [-Option.map_eq_some_iff, gInN_t, hg, gMulN]
    by_cases c1 : a ∈ P
    · simp [-Option.map_eq_some_iff, c1]
    · by_cases c4 : 2 * dinL n A P a = P.length
      · have c5 : 2 * (dinL n A P a : Int) = (P.length : Int) := by omega
        simp [-Option.map_eq_some_iff, c1, c4, c5, gInN_t, hg, gMulN]
      · have c5 : ¬ 2 * (dinL n A P a : Int) = (P.length : Int) := by omega
        simp [-Option.map_eq_some_iff, c1, c4, c5, gInN_t, hg, gMulN]
  have tie : lcGo (tgN 7) (fNot (fB (fCall G_is_crossing (fCons (fVar 7) (fCons (fVar 1) (fCons (fVar 4) (fNil))))))) (fVar 7) [7] ((Plx.ties n A).map pD) [.im (wD n A), .im (tN P), .im (rowsD n A), .im (.list (sw0 n A P)), .im (lN (half n A P)), .no, .no, .no, .no]
      = some (((Plx.ties n A).filter fun t => !crossB P (half n A P) t).map pD, [.im (wD n A), .im (tN P), .im (rowsD n A), .im (.list (sw0 n A P)), .im (lN (half n A P)), .no, .no, .no, .no]) := by
    refine lcGo_filter fun t _ => ?_
    have hc := crossing_ok (P := P) (H := half n A P) (t := t)
    unfold lcStep
    simp [-Option.map_eq_some_iff, hc]
    cases crossB P (half n A P) t <;> simp
  have loop := forGo_ix (tg := tgN 6) (F := sDrop (fExt 5 (fLc (fSeq (fVar 1)) (tgN 8) (fB (fOp (gIn true) (fVar 8) (fOp gIx (fVar 2) (fVar 6)))) (fTup (fCons (fCB gMin2 (fCons (fVar 6) (fCons (fVar 8) (fNil)))) (fCons (fCB gMax2 (fCons (fVar 6) (fCons (fVar 8) (fNil)))) (fNil)))) [8]))) (enc := nD)
    (fun pre e => pre.length ≤ 26 → ((Plx.ties n A).filter (fun t => !crossB P (half n A P) t) ++ pre.flatMap (addP n A P)).length ≤ 325 + 26 * pre.length ∧ ∃ s6, isPlain (some s6) = true ∧ e = [.im (wD n A), .im (tN P), .im (rowsD n A), .im (.list (sw0 n A P)), .im (lN (half n A P)), .mu (((Plx.ties n A).filter (fun t => !crossB P (half n A P) t) ++ pre.flatMap (addP n A P)).map pD), s6, .no, .no])
    (xs := half n A P) (pre := []) (e := [.im (wD n A), .im (tN P), .im (rowsD n A), .im (.list (sw0 n A P)), .im (lN (half n A P)), .mu (((Plx.ties n A).filter (fun t => !crossB P (half n A P) t)).map pD), .no, .no, .no]) ?_ ?_
  · obtain ⟨e', l1, l2⟩ := loop
    obtain ⟨_, s6, p6, rfl⟩ := l2 (by omega)
    have srt := sort_newT w ha hb
    unfold newT at srt
    unfold G_switched runP F_switched start0
    simp only [sSeq_e]
    unfold sCallX
    simp [-Option.map_eq_some_iff, hn, hi, hs, hr, rngD_n0, own, hal]
    simp [-Option.map_eq_some_iff, htl2, tie, hhl2, l1]
    rw [List.map_append] at srt
    simp [-Option.map_eq_some_iff, srt]
  · intro pre a post ht e he
    have hpl : pre.length + 1 ≤ (half n A P).length := by
      have := congrArg List.length ht
      simp at this
      omega
    obtain ⟨hlen, s6, p6, rfl⟩ := he (by omega)
    have ham : a ∈ half n A P := by rw [← ht]; simp
    have hg : (List.range n)[a]? = some a := List.getElem?_range (mem_half.mp ham).1
    have hadd := addP_len (n := n) (A := A) (P := P) (a := a)
    refine ⟨_, ?_, fun _ => ⟨?_, .im (nD a), rfl, rfl⟩⟩
    · obtain ⟨M, hM⟩ : ∃ M, M = (Plx.ties n A).filter (fun t => !crossB P (half n A P) t) ++ pre.flatMap (addP n A P) := ⟨_, rfl⟩
      rw [← hM] at hlen ⊢
      have inn : lcGo (tgN 8) (fB (fOp (gIn true) (fVar 8) (fOp gIx (fVar 2) (fVar 6)))) (fTup (fCons (fCB gMin2 (fCons (fVar 6) (fCons (fVar 8) (fNil)))) (fCons (fCB gMax2 (fCons (fVar 6) (fCons (fVar 8) (fNil)))) (fNil)))) [8] (P.map nD) [.im (wD n A), .im (tN P), .im (rowsD n A), .im (.list (sw0 n A P)), .im (lN (half n A P)), .mu (M.map pD), .im (nD a), .no, .no]
          = some ((addP n A P a).map pD, [.im (wD n A), .im (tN P), .im (rowsD n A), .im (.list (sw0 n A P)), .im (lN (half n A P)), .mu (M.map pD), .im (nD a), .no, .no]) := by
        unfold addP
        rw [List.map_map]
        refine lcGo_filter fun x _ => ?_
        unfold lcStep
        simp only [rowsD]
        simp [-Option.map_eq_some_iff, hg, gInN_l]
        by_cases c : x ∈ Plx.rowN n A a <;> simp [c]
      have hM2 : M.length + (addP n A P a).length ≤ 100000 := by omega
      unfold fExt muAt
      rw [List.flatMap_append, ← List.append_assoc, ← hM]
      simp [-Option.map_eq_some_iff, p6, hl2, inn, hM2]
    · rw [List.flatMap_append, ← List.append_assoc, List.length_append, List.length_append]
      simp
      simp at hlen
      omega
  · exact fun _ => ⟨by simp; exact Nat.le_trans (List.length_filter_le _ _) htl, .no, rfl, by simp⟩
end N

set_option Elab.async false
set_option linter.all false
set_option maxRecDepth 100000
set_option maxHeartbeats 1000000
/-! M14: rows of so many; switched by the law; switches. -/
namespace N
open PySem
theorem some_len {n k : Nat} (hn : n ≤ 7) (hk : k ≤ 4) : (Plx.someL n k).length ≤ 35 := by
  have t : ∀ (a : Fin 8) (b : Fin 5), (Plx.someL a.val b.val).length ≤ 35 := by decide +kernel
  exact t ⟨n, by omega⟩ ⟨k, by omega⟩
/-- one row longer -/
def extR (n : Nat) (r : List Nat) : List (List Nat) := (List.range' (Plx.nxt r) (n - Plx.nxt r)).map fun o => r ++ [o]
theorem some_succ {n k : Nat} : Plx.someL n (k + 1) = (Plx.someL n k).flatMap (extR n) := rfl
theorem nxt_eq {r : List Nat} (h : r ≠ []) : Plx.nxt r = r.getD (r.length - 1) 0 + 1 := by
  unfold Plx.nxt
  rw [List.getLast?_eq_getElem?]
  have : r.length - 1 < r.length := by have := List.length_pos_iff.mpr h; omega
  simp [this, List.getD_eq_getElem?_getD]
theorem atI_m1 {r : List Nat} (h : r ≠ []) : L2.atI (r.map nD) (-1) = some (nD (r.getD (r.length - 1) 0)) := by
  have p := List.length_pos_iff.mpr h
  unfold L2.atI L2.ixN
  rw [if_neg (by omega), if_pos (by rw [List.length_map]; omega)]
  have e : (-1 + ((r.map nD).length : Int)).toNat = r.length - 1 := by rw [List.length_map]; omega
  simp only [Option.bind_some]
  rw [e]
  have q : r.length - 1 < r.length := by omega
  simp [q, List.getD_eq_getElem?_getD]
@[simp] theorem gNegI {i : Int} : gNeg (.int i) = some (.int (-i)) := rfl
theorem nxt_le {n k : Nat} {r : List Nat} (h : r ∈ Plx.someL n k) : Plx.nxt r ≤ n := by
  obtain ⟨_, h2, _⟩ := Plx.mem_some h
  by_cases c : r = []
  · subst c
    simp [Plx.nxt]
  · rw [nxt_eq c]
    have q : r.length - 1 < r.length := by have := List.length_pos_iff.mpr c; omega
    have := h2 (r.getD (r.length - 1) 0) (by simp [q, List.getD_eq_getElem?_getD])
    omega
theorem nxt_e {i : Nat} {en : En} {r : List Nat} (h : en[i]? = some (.im (tN r))) : fIf (fB (fOp gGt (fUn gLen (fVar i)) (fC (.int 0)))) (fOp gAdd (fOp gIx (fVar i) (fUn gNeg (fC (.int 1)))) (fC (.int 1))) (fC (.int 0)) en = some (nD (Plx.nxt r), en) := by
  by_cases c : r = []
  · subst c
    simp [h, Plx.nxt]
  · have p := List.length_pos_iff.mpr c
    have c2 : (0 : Int) < (r.length : Int) := by omega
    have e := atI_m1 c
    have e2 := nxt_eq c
    simp [-Option.map_eq_some_iff, h, c2, p, e, e2]
theorem nxt_e2 {i : Nat} {en : En} {r : List Nat} (h : en[i]? = some (.im (tN r))) : fIf (fB (fOp gGt (fUn gLen (fVar i)) (fC (.int 0)))) (fOp gAdd (fOp gIx (fVar i) (fOp gSubI (fUn gLen (fVar i)) (fC (.int 1)))) (fC (.int 1))) (fC (.int 0)) en = some (nD (Plx.nxt r), en) := by
  by_cases c : r = []
  · subst c
    simp [h, Plx.nxt]
  · have p := List.length_pos_iff.mpr c
    have c2 : (0 : Int) < (r.length : Int) := by omega
    have e3 : ((r.length : Int) - 1) = ((r.length - 1 : Nat) : Int) := by omega
    have q : r.length - 1 < r.length := by omega
    have e2 := nxt_eq c
    simp [-Option.map_eq_some_iff, h, c2, p, e2, e3, q, List.getD_eq_getElem?_getD]
end N

set_option Elab.async false
set_option linter.all false
set_option maxRecDepth 100000
set_option maxHeartbeats 1000000
/-! M15: rows of so many, by the law and by switches. -/
namespace N
open PySem
theorem flat_part {α β : Type} {f : α → List β} {pre post : List α} {x : α} {xs : List α} (h : pre ++ x :: post = xs) : (pre.flatMap f).length + (f x).length ≤ (xs.flatMap f).length := by
  subst h
  simp
theorem rngD_nxt (k n : Nat) : rngD (k : Int) ((n : Int) - (k : Int)).toNat = (List.range' k (n - k)).map nD := rngD_nat k n
theorem law_some_ok {n k : Nat} (hn : n ≤ 7) (hk : k ≤ 4) : G__law_some [nD n, nD k] = some (.ok (.list ((Plx.someL n k).map tN))) := by
  have hr : rgOk 0 (k : Int) = true := rgOk_nat0 (by omega)
  have loop := forGo_ix (tg := tgN 3) (F := sSeq (sAsg (fLst (fNil)) (tgN 4)) (sSeq (sFor (fSeq (fVar 2)) (tgN 5) (sAsg (fOp gAdd (fVar 4) (fLc (fRg2 (fCons (fIf (fB (fOp gGt (fUn gLen (fVar 5)) (fC (.int 0)))) (fOp gAdd (fOp gIx (fVar 5) (fUn gNeg (fC (.int 1)))) (fC (.int 1))) (fC (.int 0))) (fCons (fVar 0) (fNil)))) (tgN 6) (fYes) (fOp gAdd (fVar 5) (fTup (fCons (fVar 6) (fNil)))) [6])) (tgN 4))) (sAsg (fVar 4) (tgN 2)))) (enc := nD)
    (fun pre e => pre.length ≤ 4 → ∃ s3 s4 s5, isPlain (some s3) = true ∧ isPlain (some s4) = true ∧ isPlain (some s5) = true ∧ e = [.im (nD n), .im (nD k), .im (.list ((Plx.someL n pre.length).map tN)), s3, s4, s5, .no])
    (xs := List.range k) (pre := []) (e := [.im (nD n), .im (nD k), .im (.list [.tuple []]), .no, .no, .no, .no]) ?_ ?_
  · obtain ⟨e', l1, l2⟩ := loop
    obtain ⟨s3, s4, s5, p3, p4, p5, rfl⟩ := l2 (by rw [List.length_range]; exact hk)
    unfold G__law_some runP F__law_some start0
    simp only [sSeq_e]
    simp [-Option.map_eq_some_iff, hr, rngD_n0, l1]
  · intro pre t post ht e he
    have hpl : pre.length + 1 ≤ k := by
      have := congrArg List.length ht
      simp at this
      omega
    obtain ⟨s3, s4, s5, p3, p4, p5, rfl⟩ := he (by omega)
    have hsl := some_len (k := pre.length) hn (by omega)
    have hsl2 := some_len (k := pre.length + 1) hn (by omega)
    have hsl3 : (Plx.someL n pre.length).length ≤ 100000 := by omega
    have loop2 := forGo_ix (tg := tgN 5) (F := sAsg (fOp gAdd (fVar 4) (fLc (fRg2 (fCons (fIf (fB (fOp gGt (fUn gLen (fVar 5)) (fC (.int 0)))) (fOp gAdd (fOp gIx (fVar 5) (fUn gNeg (fC (.int 1)))) (fC (.int 1))) (fC (.int 0))) (fCons (fVar 0) (fNil)))) (tgN 6) (fYes) (fOp gAdd (fVar 5) (fTup (fCons (fVar 6) (fNil)))) [6])) (tgN 4)) (enc := tN)
      (fun pre2 e => ∃ s5, isPlain (some s5) = true ∧ e = [.im (nD n), .im (nD k), .im (.list ((Plx.someL n pre.length).map tN)), .im (nD t), .im (.list ((pre2.flatMap (extR n)).map tN)), s5, .no])
      (xs := Plx.someL n pre.length) (pre := []) (e := [.im (nD n), .im (nD k), .im (.list ((Plx.someL n pre.length).map tN)), .im (nD t), .im (.list []), s5, .no]) ?_ ?_
    · obtain ⟨e2, m1, s5', p5', rfl⟩ := loop2
      refine ⟨_, ?_, fun _ => ⟨.im (nD t), .im (.list (((Plx.someL n pre.length).flatMap (extR n)).map tN)), s5', rfl, rfl, p5', rfl⟩⟩
      rw [List.length_append, List.length_singleton, some_succ]
      simp [-Option.map_eq_some_iff, p3, p4, p5, hsl3, m1]
    · intro pre2 r post2 hr2 e he2
      obtain ⟨s5', p5', rfl⟩ := he2
      have hrm : r ∈ Plx.someL n pre.length := by rw [← hr2]; simp
      obtain ⟨_, _, hrl⟩ := Plx.mem_some hrm
      have hnx := nxt_le hrm
      have nx := nxt_e (i := 5) (en := [.im (nD n), .im (nD k), .im (.list ((Plx.someL n pre.length).map tN)), .im (nD t), .im (.list ((pre2.flatMap (extR n)).map tN)), .im (tN r), .no]) (r := r) rfl
      have hr3 : rgOk (Plx.nxt r : Int) (n : Int) = true := rgOk_nat (by omega) (by omega)
      have inn : lcGo (tgN 6) (fYes) (fOp gAdd (fVar 5) (fTup (fCons (fVar 6) (fNil)))) [6] ((List.range' (Plx.nxt r) (n - Plx.nxt r)).map nD) [.im (nD n), .im (nD k), .im (.list ((Plx.someL n pre.length).map tN)), .im (nD t), .im (.list ((pre2.flatMap (extR n)).map tN)), .im (tN r), .no]
          = some ((extR n r).map tN, [.im (nD n), .im (nD k), .im (.list ((Plx.someL n pre.length).map tN)), .im (nD t), .im (.list ((pre2.flatMap (extR n)).map tN)), .im (tN r), .no]) := by
        unfold extR
        rw [List.map_map]
        refine lcGo_map fun x _ => ?_
        have hrl2 : r.length ≤ 99999 := by omega
        unfold lcStep
        simp [gAdd, hrl2]
      have hfp := flat_part (f := extR n) hr2
      rw [← some_succ] at hfp
      have hfp2 : (pre2.flatMap (extR n)).length + (extR n r).length ≤ 100000 := by omega
      have hgr := rngD_nxt (Plx.nxt r) n
      refine ⟨_, ?_, .im (tN r), rfl, rfl⟩
      obtain ⟨M, hM⟩ : ∃ M, M = pre2.flatMap (extR n) := ⟨_, rfl⟩
      rw [List.flatMap_append, ← hM]
      rw [← hM] at hfp2 inn nx
      simp only [tgN_e, List.getElem?_cons_succ, List.getElem?_cons_zero, p5', if_true, Option.bind_some, sAsg_e, fOp_e, fLc_e, fRg2_e, fCons_e, List.set_cons_succ, List.set_cons_zero, fVar_e, nx]
      simp [-Option.map_eq_some_iff, hr3, rngD_c, inn, hfp2, gAdd]
    · exact ⟨s5, p5, by simp⟩
  · exact fun _ => ⟨.no, .no, .no, rfl, rfl, rfl, rfl⟩
end N

set_option Elab.async false
set_option linter.all false
set_option maxRecDepth 100000
set_option maxHeartbeats 1000000
/-! M16: switches; the law's switched web. -/
namespace N
open PySem
theorem lc2Go_pure {α : Type} {tg : FG} {ft : FB} {I1 : FA} {tg1 : FG} {ft1 : FB} {fe : FE} {vs vs1 : List Nat} {e : En} {enc : α → PyData} {g : α → List PyData} : ∀ {xs : List α}, (∀ x ∈ xs, ((tg (enc x) e).bind fun e1 => (ft e1).bind fun q => if q.1 = true then (I1 q.2).bind fun p1 => if ownOk p1.2 vs1 = true then (lcGo tg1 ft1 fe vs1 p1.1 (wipeE p1.2 vs1)).map fun r => (r.1, wipeE r.2 vs) else none else some ([], wipeE q.2 vs)) = some (g x, e)) →
    lc2Go tg ft I1 tg1 ft1 fe vs vs1 (xs.map enc) e = some (xs.flatMap g, e)
  | [], _ => rfl
  | x :: xs, h => by
    have h1 := h x List.mem_cons_self
    have ih := lc2Go_pure (xs := xs) fun y hy => h y (List.mem_cons_of_mem _ hy)
    rw [List.map_cons, List.flatMap_cons]
    unfold lc2Go
    cases e1 : tg (enc x) e with
    | none => rw [e1] at h1; cases h1
    | some a =>
      rw [e1] at h1
      simp only [Option.bind_some] at h1 ⊢
      cases e2 : ft a with
      | none => rw [e2] at h1; cases h1
      | some q =>
        rw [e2] at h1
        simp only [Option.bind_some] at h1 ⊢
        by_cases c : q.1 = true
        · rw [if_pos c] at h1 ⊢
          cases e3 : I1 q.2 with
          | none => rw [e3] at h1; cases h1
          | some p1 =>
            rw [e3] at h1
            simp only [Option.bind_some] at h1 ⊢
            by_cases c2 : ownOk p1.2 vs1 = true
            · rw [if_pos c2] at h1 ⊢
              cases e4 : lcGo tg1 ft1 fe vs1 p1.1 (wipeE p1.2 vs1) with
              | none => rw [e4] at h1; cases h1
              | some r =>
                rw [e4] at h1
                simp only [Option.map_some, Option.some.injEq, Prod.mk.injEq] at h1
                simp only [Option.bind_some]
                rw [h1.2, ih, h1.1]
                rfl
            · rw [if_neg c2] at h1
              cases h1
        · rw [if_neg c] at h1 ⊢
          simp only [Option.some.injEq, Prod.mk.injEq] at h1
          rw [h1.2, ih, ← h1.1]
          rfl
@[simp] theorem fLc2_e {I : FA} {tg : FG} {ft : FB} {I1 : FA} {tg1 : FG} {ft1 : FB} {fe : FE} {vs vs1 : List Nat} {en : En} : fLc2 I tg ft I1 tg1 ft1 fe vs vs1 en = (I en).bind fun p => if ownOk p.2 vs = true then (lc2Go tg ft I1 tg1 ft1 fe vs vs1 p.1 (wipeE p.2 vs)).bind fun r => if r.1.length ≤ 100000 then some (.list r.1, restore r.2 p.2 vs) else none else none := rfl
theorem switches_ok {n k : Nat} {A : Nat → Nat → Bool} (h1 : 1 ≤ n) (h2 : n ≤ 7) (w : Plx.Wb A) (k1 : 1 ≤ k) (k2 : k ≤ 4) : G_switches [wD n A, nD k] = some (.ok (.tuple (((Plx.someL n k).filter (swB n A)).map tN))) := by
  have hn := wD_need (A := A) h1 (by omega) "web"
  have hr : rgOk 0 (k : Int) = true := rgOk_nat0 (by omega)
  have g1 : (1 : Int) ≤ (k : Int) := by omega
  have g2 : (k : Int) ≤ 4 := by omega
  have loop := forGo_ix (tg := tgN 3) (F := sAsg (fLc2 (fSeq (fVar 2)) (tgN 4) (fYes) (fRg2 (fCons (fIf (fB (fOp gGt (fUn gLen (fVar 4)) (fC (.int 0)))) (fOp gAdd (fOp gIx (fVar 4) (fOp gSubI (fUn gLen (fVar 4)) (fC (.int 1)))) (fC (.int 1))) (fC (.int 0))) (fCons (fOp gIx (fVar 0) (fC (.int 0))) (fNil)))) (tgN 5) (fYes) (fOp gAdd (fVar 4) (fTup (fCons (fVar 5) (fNil)))) [4, 5] [5]) (tgN 2)) (enc := nD)
    (fun pre e => pre.length ≤ 4 → ∃ s3, isPlain (some s3) = true ∧ e = [.im (wD n A), .im (nD k), .im (.list ((Plx.someL n pre.length).map tN)), s3, .no, .no])
    (xs := List.range k) (pre := []) (e := [.im (wD n A), .im (nD k), .im (.list [.tuple []]), .no, .no, .no]) ?_ ?_
  · obtain ⟨e', l1, l2⟩ := loop
    obtain ⟨s3, p3, rfl⟩ := l2 (by rw [List.length_range]; exact k2)
    have hsl := some_len h2 k2
    have hsl3 : (Plx.someL n k).length ≤ 100000 := by omega
    have fin : lcGo (tgN 4) (fB (fCall G_is_switch (fCons (fVar 0) (fCons (fVar 4) (fNil))))) (fVar 4) [4] ((Plx.someL n k).map tN) [.im (wD n A), .im (nD k), .im (.list ((Plx.someL n k).map tN)), s3, .no, .no]
        = some (((Plx.someL n k).filter (swB n A)).map tN, [.im (wD n A), .im (nD k), .im (.list ((Plx.someL n k).map tN)), s3, .no, .no]) := by
      refine lcGo_filter fun r hr => ?_
      obtain ⟨r1, r2, r3⟩ := Plx.mem_some hr
      have hi := is_switch_ok (A := A) (P := r) h1 (by omega) w (by omega) (fun e => by subst e; simp at r3; omega)
      rw [someB_iff.mpr ⟨r2, r1⟩, Bool.true_and] at hi
      unfold lcStep
      simp [-Option.map_eq_some_iff, hi]
      cases swB n A r <;> simp
    unfold G_switches runP F_switches start0
    simp only [sSeq_e]
    unfold sCallX
    simp [-Option.map_eq_some_iff, hn, g1, g2, hr, rngD_n0, l1]
    simp [-Option.map_eq_some_iff, hsl3, fin]
  · intro pre t post ht e he
    have hpl : pre.length + 1 ≤ k := by
      have := congrArg List.length ht
      simp at this
      omega
    obtain ⟨s3, p3, rfl⟩ := he (by omega)
    have hsl := some_len (k := pre.length) h2 (by omega)
    have hsl2 := some_len (k := pre.length + 1) h2 (by omega)
    have hsl3 : (Plx.someL n pre.length).length ≤ 100000 := by omega
    have hsl4 : (Plx.someL n (pre.length + 1)).length ≤ 100000 := by omega
    have two : lc2Go (tgN 4) (fYes) (fRg2 (fCons (fIf (fB (fOp gGt (fUn gLen (fVar 4)) (fC (.int 0)))) (fOp gAdd (fOp gIx (fVar 4) (fOp gSubI (fUn gLen (fVar 4)) (fC (.int 1)))) (fC (.int 1))) (fC (.int 0))) (fCons (fOp gIx (fVar 0) (fC (.int 0))) (fNil)))) (tgN 5) (fYes) (fOp gAdd (fVar 4) (fTup (fCons (fVar 5) (fNil)))) [4, 5] [5] ((Plx.someL n pre.length).map tN) [.im (wD n A), .im (nD k), .im (.list ((Plx.someL n pre.length).map tN)), .im (nD t), .no, .no]
        = some ((Plx.someL n pre.length).flatMap (fun r => (extR n r).map tN), [.im (wD n A), .im (nD k), .im (.list ((Plx.someL n pre.length).map tN)), .im (nD t), .no, .no]) := by
      refine lc2Go_pure fun r hrm => ?_
      obtain ⟨_, _, hrl⟩ := Plx.mem_some hrm
      have hnx := nxt_le hrm
      have nx := nxt_e2 (i := 4) (en := [.im (wD n A), .im (nD k), .im (.list ((Plx.someL n pre.length).map tN)), .im (nD t), .im (tN r), .no]) (r := r) rfl
      have hr3 : rgOk (Plx.nxt r : Int) (n : Int) = true := rgOk_nat (by omega) (by omega)
      have inn : lcGo (tgN 5) (fYes) (fOp gAdd (fVar 4) (fTup (fCons (fVar 5) (fNil)))) [5] ((List.range' (Plx.nxt r) (n - Plx.nxt r)).map nD) [.im (wD n A), .im (nD k), .im (.list ((Plx.someL n pre.length).map tN)), .im (nD t), .im (tN r), .no]
          = some ((extR n r).map tN, [.im (wD n A), .im (nD k), .im (.list ((Plx.someL n pre.length).map tN)), .im (nD t), .im (tN r), .no]) := by
        unfold extR
        rw [List.map_map]
        refine lcGo_map fun x _ => ?_
        have hrl2 : r.length ≤ 99999 := by omega
        unfold lcStep
        simp [gAdd, hrl2]
      simp only [tgN_e, List.getElem?_cons_succ, List.getElem?_cons_zero, isPlain_no, if_true, Option.bind_some, fOp_e, fYes_e, fRg2_e, fCons_e, List.set_cons_succ, List.set_cons_zero, nx]
      simp [-Option.map_eq_some_iff, hr3, rngD_c, inn]
    refine ⟨_, ?_, fun _ => ⟨.im (nD t), rfl, rfl⟩⟩
    rw [List.length_append, List.length_singleton, some_succ, List.map_flatMap]
    have hsl5 : ((Plx.someL n pre.length).flatMap (fun r => (extR n r).map tN)).length ≤ 100000 := by
      rw [← List.map_flatMap, List.length_map]
      exact hsl4
    obtain ⟨Z, hZ⟩ : ∃ Z, Z = (Plx.someL n pre.length).flatMap (fun r => (extR n r).map tN) := ⟨_, rfl⟩
    rw [← hZ] at two hsl5 ⊢
    simp [-Option.map_eq_some_iff, p3, hsl3, two, hsl5]
  · exact fun _ => ⟨.no, rfl, rfl⟩
theorem switches_bad5 {W d : PyData} (h : G_need_web [W, .str "web", .int 26] = some (.ok d)) : G_switches [W, .int 5] = some (.bad "size") := by
  have r := @sRaise_str (fC (.str "size")) [.im W, .im (.int 5), .no, .no, .no, .no] "size" [.im W, .im (.int 5), .no, .no, .no, .no] rfl (by decide)
  unfold G_switches runP F_switches start0
  simp only [sSeq_e]
  unfold sCallX
  simp [h, r]
theorem switches_badT {W d : PyData} (h : G_need_web [W, .str "web", .int 26] = some (.ok d)) : G_switches [W, .bool true] = some (.bad "size") := by
  have r := @sRaise_str (fC (.str "size")) [.im W, .im (.bool true), .no, .no, .no, .no] "size" [.im W, .im (.bool true), .no, .no, .no, .no] rfl (by decide)
  unfold G_switches runP F_switches start0
  simp only [sSeq_e]
  unfold sCallX
  simp [h, r]
end N

set_option Elab.async false
set_option linter.all false
set_option maxRecDepth 100000
set_option maxHeartbeats 1000000
/-! M17: switched by the law; turned webs. -/
namespace N
open PySem
theorem some2_len {n : Nat} (h : n ≤ 7) : (Plx.pairs n).length ≤ 35 := by
  have z := some_len (k := 2) h (by omega)
  rw [Plx.some2, List.length_map] at z
  exact z
theorem law_some2 {n : Nat} (h : n ≤ 7) : G__law_some [nD n, .int 2] = some (.ok (.list ((Plx.pairs n).map pD))) := by
  have z := law_some_ok (k := 2) h (by omega)
  rw [Plx.some2, List.map_map] at z
  exact z
theorem own_switched_ok {n : Nat} {A : Nat → Nat → Bool} {P : List Nat} (h2 : n ≤ 7) (w : Plx.Wb A) (ha : Plx.Asc P) (hb : ∀ x ∈ P, x < n) : G__law_own_switched [wD n A, tN P] = some (.ok (wD n (Plx.sw n A fun k => P.contains k))) := by
  have hl : P.length ≤ 26 := Nat.le_trans (Plx.asc_le ha hb) (by omega)
  have hc := Plx.asc_cnt ha hb
  have hs := sides_ok w (show n ≤ 26 by omega)
  rw [← law_sides_eq] at hs
  have hr : rgOk 0 (n : Int) = true := rgOk_nat0 (by omega)
  have hsm := law_some2 h2
  have own : lcGo (tgN 8) fYes (fUn gLen (fLc (fSeq (fOp gIx (fVar 2) (fVar 8))) (tgN 9) (fB (fOp (gIn false) (fVar 9) (fVar 1))) (fVar 9) [9])) [8] ((List.range n).map nD) [.im (wD n A), .im (tN P), .im (rowsD n A), .mu [], .no, .no, .no, .no, .no, .no]
      = some ((List.range n).map fun a => nD (dinL n A P a), [.im (wD n A), .im (tN P), .im (rowsD n A), .mu [], .no, .no, .no, .no, .no, .no]) := by
    refine lcGo_map fun a ha => ?_
    have hg : (List.range n)[a]? = some a := List.getElem?_range (List.mem_range.mp ha)
    have hrl : (Plx.rowN n A a).length ≤ 100000 := by have := row_len (n := n) (A := A) (a := a); omega
    have inn : lcGo (tgN 9) (fB (fOp (gIn false) (fVar 9) (fVar 1))) (fVar 9) [9] ((Plx.rowN n A a).map nD) [.im (wD n A), .im (tN P), .im (rowsD n A), .mu [], .no, .no, .no, .no, .im (nD a), .no] = some (((Plx.rowN n A a).filter fun x => P.contains x).map nD, [.im (wD n A), .im (tN P), .im (rowsD n A), .mu [], .no, .no, .no, .no, .im (nD a), .no]) := by
      refine lcGo_filter fun x _ => ?_
      unfold lcStep
      simp [gInN_t]
      split <;> simp
    unfold lcStep
    simp only [rowsD] at inn ⊢
    simp [hg, hrl, inn, dinL]
  have hpl := some2_len h2
  have loop := forGo_ix (tg := tgT [5, 6]) (F := sSeq (sAsg (fOp (gIn false) (fVar 6) (fOp gIx (fVar 2) (fVar 5))) (tgN 7)) (sSeq (sIf (fAnd (fB (fOp (gIn false) (fVar 5) (fVar 1))) (fAnd (fB (fOp (gIn true) (fVar 6) (fVar 1))) (fB (fOp gEq (fOp gMul (fC (.int 2)) (fOp gIx (fVar 4) (fVar 6))) (fUn gLen (fVar 1)))))) (sAsg (fNotV (fVar 7)) (tgN 7)) (sIf (fAnd (fB (fOp (gIn false) (fVar 6) (fVar 1))) (fAnd (fB (fOp (gIn true) (fVar 5) (fVar 1))) (fB (fOp gEq (fOp gMul (fC (.int 2)) (fOp gIx (fVar 4) (fVar 5))) (fUn gLen (fVar 1)))))) (sAsg (fNotV (fVar 7)) (tgN 7)) (sNext))) (sIf (fB (fVar 7)) (sDrop (fApp 3 (fTup (fCons (fVar 5) (fCons (fVar 6) (fNil)))))) (sNext)))) (enc := pD)
    (fun pre e => ∃ s5 s6 s7, isPlain (some s5) = true ∧ isPlain (some s6) = true ∧ isPlain (some s7) = true ∧ e = [.im (wD n A), .im (tN P), .im (rowsD n A), .mu ((pre.filter fun t => Plx.sw n A (fun k => P.contains k) t.1 t.2).map pD), .im (.list (sw0 n A P)), s5, s6, s7, .no, .no])
    (xs := Plx.pairs n) (pre := []) (e := [.im (wD n A), .im (tN P), .im (rowsD n A), .mu [], .im (.list (sw0 n A P)), .no, .no, .no, .no, .no]) ?_ ?_
  · obtain ⟨e', l1, s5, s6, s7, p5, p6, p7, rfl⟩ := loop
    have hpl2 : (Plx.pairs n).length ≤ 100000 := by omega
    unfold G__law_own_switched runP F__law_own_switched start0
    simp only [sSeq_e]
    simp [-Option.map_eq_some_iff, hs, hr, rngD_n0, own, hsm, hpl2]
    simp [-Option.map_eq_some_iff, l1]
    rfl
  · intro pre t post ht e he
    obtain ⟨x, y⟩ := t
    obtain ⟨s5, s6, s7, p5, p6, p7, rfl⟩ := he
    have hm : (x, y) ∈ Plx.pairs n := by rw [← ht]; simp
    obtain ⟨q1, q2⟩ := Plx.mem_pairs.mp hm
    simp only at q1 q2
    have gx : (List.range n)[x]? = some x := List.getElem?_range (by omega)
    have gy : (List.range n)[y]? = some y := List.getElem?_range q2
    have hlen : (pre.filter fun t => Plx.sw n A (fun k => P.contains k) t.1 t.2).length < 100000 := by
      have a1 := List.length_filter_le (fun t => Plx.sw n A (fun k => P.contains k) t.1 t.2) pre
      have a2 := congrArg List.length ht
      rw [List.length_append] at a2
      omega
    obtain ⟨M, hM⟩ : ∃ M, M = pre.filter fun t => Plx.sw n A (fun k => P.contains k) t.1 t.2 := ⟨_, rfl⟩
    rw [List.filter_append, ← hM]
    rw [← hM] at hlen
    have hrow : (Plx.rowN n A x).contains y = A x y := by
      rw [Bool.eq_iff_iff]
      simp [mem_row, q2]
    have hT : tgT [5, 6] (pD (x, y)) [.im (wD n A), .im (tN P), .im (rowsD n A), .mu (M.map pD), .im (.list (sw0 n A P)), s5, s6, s7, .no, .no] = some [.im (wD n A), .im (tN P), .im (rowsD n A), .mu (M.map pD), .im (.list (sw0 n A P)), .im (nD x), .im (nD y), s7, .no, .no] := by simp [p5, p6]
    rw [hT, Option.bind_some]
    have hd : ∀ a, dinL n A P a = Plx.din n A (fun k => P.contains k) a := fun a => dinL_eq
    have hhalf : ∀ a, decide (2 * (dinL n A P a : Int) = (P.length : Int)) = decide (2 * Plx.din n A (fun k => P.contains k) a = Plx.cnt n (fun k => P.contains k)) := fun a => by
      rw [hc, hd]
      exact decide_eq_decide.mpr (by omega)
    have st : ∃ s7', isPlain (some s7') = true ∧ sSeq (sAsg (fOp (gIn false) (fVar 6) (fOp gIx (fVar 2) (fVar 5))) (tgN 7)) (sIf (fAnd (fB (fOp (gIn false) (fVar 5) (fVar 1))) (fAnd (fB (fOp (gIn true) (fVar 6) (fVar 1))) (fB (fOp gEq (fOp gMul (fC (.int 2)) (fOp gIx (fVar 4) (fVar 6))) (fUn gLen (fVar 1)))))) (sAsg (fNotV (fVar 7)) (tgN 7)) (sIf (fAnd (fB (fOp (gIn false) (fVar 6) (fVar 1))) (fAnd (fB (fOp (gIn true) (fVar 5) (fVar 1))) (fB (fOp gEq (fOp gMul (fC (.int 2)) (fOp gIx (fVar 4) (fVar 5))) (fUn gLen (fVar 1)))))) (sAsg (fNotV (fVar 7)) (tgN 7)) (sNext)))
       [.im (wD n A), .im (tN P), .im (rowsD n A), .mu (M.map pD), .im (.list (sw0 n A P)), .im (nD x), .im (nD y), s7, .no, .no] = some (.nx [.im (wD n A), .im (tN P), .im (rowsD n A), .mu (M.map pD), .im (.list (sw0 n A P)), .im (nD x), .im (nD y), .im (.bool (Plx.sw n A (fun k => P.contains k) x y)), .no, .no]) := by
      refine ⟨s7, p7, ?_⟩
      have hA : gIn false (nD y) (lN (Plx.rowN n A x)) = some (.bool (A x y)) := by
        rw [gInN_l, hrow]
        rfl
      simp only [sSeq_e, sAsg_e, rowsD]
      by_cases c1 : x ∈ P <;> by_cases c2 : y ∈ P
      · rw [Plx.sw_in (by simpa using c1) (by simpa using c2)]
        simp [-Option.map_eq_some_iff, p7, gx, hA, c1, c2, gInN_t]
      · rw [Plx.sw_io (by simpa using c1) (by simpa using c2), hc, ← dinL_eq]
        by_cases c3 : 2 * dinL n A P y = P.length
        · have c4 : 2 * (dinL n A P y : Int) = (P.length : Int) := by omega
          simp [-Option.map_eq_some_iff, p7, gx, hA, c1, c2, gInN_t, gy, gMulN, sw0, c3, c4]
        · have c4 : ¬ 2 * (dinL n A P y : Int) = (P.length : Int) := by omega
          simp [-Option.map_eq_some_iff, p7, gx, hA, c1, c2, gInN_t, gy, gMulN, sw0, c3, c4]
      · rw [Plx.sw_oi (by simpa using c1) (by simpa using c2), hc, ← dinL_eq]
        by_cases c3 : 2 * dinL n A P x = P.length
        · have c4 : 2 * (dinL n A P x : Int) = (P.length : Int) := by omega
          simp [-Option.map_eq_some_iff, p7, gx, hA, c1, c2, gInN_t, gx, gMulN, sw0, c3, c4]
        · have c4 : ¬ 2 * (dinL n A P x : Int) = (P.length : Int) := by omega
          simp [-Option.map_eq_some_iff, p7, gx, hA, c1, c2, gInN_t, gx, gMulN, sw0, c3, c4]
      · rw [Plx.sw_out (by simpa using c1) (by simpa using c2)]
        simp [-Option.map_eq_some_iff, p7, gx, hA, c1, c2, gInN_t]
    obtain ⟨s7', _, st⟩ := st
    have ass : ∀ (a b c : FS) (en : En), sSeq a (sSeq b c) en = sSeq (sSeq a b) c en := fun a b c en => by
      simp only [sSeq_e]
      cases a en with
      | none => rfl
      | some o => cases o <;> rfl
    rw [ass, sSeq_e, st, Option.bind_some]
    cases hb2 : Plx.sw n A (fun k => P.contains k) x y with
    | true =>
      refine ⟨_, ?_, .im (nD x), .im (nD y), .im (.bool true), rfl, rfl, rfl, rfl⟩
      simp [-Option.map_eq_some_iff, hlen]
      simp at hb2
      simp [hb2]
    | false =>
      refine ⟨_, ?_, .im (nD x), .im (nD y), .im (.bool false), rfl, rfl, rfl, rfl⟩
      simp at hb2
      simp [-Option.map_eq_some_iff, hlen, hb2]
  · exact ⟨.no, .no, .no, rfl, rfl, rfl, by simp⟩
end N

set_option Elab.async false
set_option linter.all false
set_option maxRecDepth 100000
set_option maxHeartbeats 1000000
/-! M18: turned webs, odd triples. -/
namespace N
open PySem
def seg (n : Nat) (B : Nat → Nat → Bool) (a : Nat) : List (Nat × Nat) := ((Plx.aft a n).filter (B a)).map fun b => (a, b)
theorem ties_seg {n : Nat} {B : Nat → Nat → Bool} : Plx.ties n B = (List.range n).flatMap (seg n B) := by
  unfold Plx.ties Plx.pairs
  rw [List.filter_flatMap]
  refine congrArg (List.flatMap · _) (funext fun a => ?_)
  unfold seg
  rw [List.filter_map]
  rfl
theorem row_has {n : Nat} {A : Nat → Nat → Bool} {a b : Nat} (h : b < n) : gIn false (nD b) (lN (Plx.rowN n A a)) = some (.bool (A a b)) := by
  rw [gInN_l]
  have e : (Plx.rowN n A a).contains b = A a b := by
    rw [Bool.eq_iff_iff]
    simp [mem_row, h]
  rw [e]
  rfl
theorem turned_no {n : Nat} {A : Nat → Nat → Bool} {P : List Nat} (h1 : 1 ≤ n) (h2 : n ≤ 26) (hl : P.length ≤ 1000) (h : someB n P = false) : G_turned_web [wD n A, tN P] = some (.bad "places") := by
  have hn := wD_need (A := A) h1 h2 "web"
  have hi := is_some_ok (n := n) (w := .tuple ((Plx.ties n A).map pD)) hl
  rw [h] at hi
  have r := @sRaise_str (fC (.str "places")) [.im (wD n A), .im (tN P), .no, .no, .no, .no] "places" [.im (wD n A), .im (tN P), .no, .no, .no, .no] rfl (by decide)
  unfold G_turned_web runP F_turned_web start0
  simp only [sSeq_e]
  unfold sCallX
  simp [hn, hi, r]
theorem turned_ok {n : Nat} {A : Nat → Nat → Bool} {P : List Nat} (h1 : 1 ≤ n) (h2 : n ≤ 26) (w : Plx.Wb A) (hl : P.length ≤ 1000) (h : someB n P = true) : G_turned_web [wD n A, tN P] = some (.ok (wD n (Plx.tn A fun k => P.contains k))) := by
  have hn := wD_need (A := A) h1 h2 "web"
  have hi := is_some_ok (n := n) (w := .tuple ((Plx.ties n A).map pD)) hl
  rw [h] at hi
  have hs := sides_ok w h2
  have hr : rgOk 0 (n : Int) = true := rgOk_nat0 (by omega)
  obtain ⟨B, hB⟩ : ∃ B, B = Plx.tn A fun k => P.contains k := ⟨_, rfl⟩
  rw [← hB]
  have htl := Plx.ties_len (A := B) h2
  have loop := forGo_ix (tg := tgN 4) (F := sFor (fRg2 (fCons (fOp gAdd (fVar 4) (fC (.int 1))) (fCons (fOp gIx (fVar 0) (fC (.int 0))) (fNil)))) (tgN 5) (sIf (fB (fOp gNe (fOp (gIn false) (fVar 5) (fOp gIx (fVar 2) (fVar 4))) (fOp gNe (fOp (gIn false) (fVar 4) (fVar 1)) (fOp (gIn false) (fVar 5) (fVar 1))))) (sDrop (fApp 3 (fTup (fCons (fVar 4) (fCons (fVar 5) (fNil)))))) (sNext))) (enc := nD)
    (fun pre e => ∃ s4 s5, isPlain (some s4) = true ∧ isPlain (some s5) = true ∧ e = [.im (wD n A), .im (tN P), .im (rowsD n A), .mu ((pre.flatMap (seg n B)).map pD), s4, s5])
    (xs := List.range n) (pre := []) (e := [.im (wD n A), .im (tN P), .im (rowsD n A), .mu [], .no, .no]) ?_ ?_
  · obtain ⟨e', l1, s4, s5, p4, p5, rfl⟩ := loop
    rw [← ties_seg] at l1
    unfold G_turned_web runP F_turned_web start0
    simp only [sSeq_e]
    unfold sCallX
    simp [-Option.map_eq_some_iff, hn, hi, hs, hr, rngD_n0, l1]
  · intro pre a post ht e he
    obtain ⟨s4, s5, p4, p5, rfl⟩ := he
    have han : a < n := List.mem_range.mp (by rw [← ht]; simp)
    have ga : (List.range n)[a]? = some a := List.getElem?_range han
    have fp := flat_part (f := seg n B) ht
    rw [← ties_seg] at fp
    have hr1 : rgOk ((a : Int) + 1) (n : Int) = true := rgOk_nat1 (by omega) (by omega)
    have loop2 := forGo_ix (tg := tgN 5) (F := sIf (fB (fOp gNe (fOp (gIn false) (fVar 5) (fOp gIx (fVar 2) (fVar 4))) (fOp gNe (fOp (gIn false) (fVar 4) (fVar 1)) (fOp (gIn false) (fVar 5) (fVar 1))))) (sDrop (fApp 3 (fTup (fCons (fVar 4) (fCons (fVar 5) (fNil)))))) (sNext)) (enc := nD)
      (fun pre2 e => ∃ s5, isPlain (some s5) = true ∧ e = [.im (wD n A), .im (tN P), .im (rowsD n A), .mu ((pre.flatMap (seg n B) ++ (pre2.filter (B a)).map fun b => (a, b)).map pD), .im (nD a), s5])
      (xs := Plx.aft a n) (pre := []) (e := [.im (wD n A), .im (tN P), .im (rowsD n A), .mu ((pre.flatMap (seg n B)).map pD), .im (nD a), s5]) ?_ ?_
    · obtain ⟨e2, m1, s5', p5', rfl⟩ := loop2
      refine ⟨_, ?_, .im (nD a), s5', rfl, p5', rfl⟩
      rw [List.flatMap_append]
      simp [-Option.map_eq_some_iff, p4, hr1, rngD_aft, m1]
      simp [seg]
    · intro pre2 b post2 ht2 e he2
      obtain ⟨s5', p5', rfl⟩ := he2
      have hbm : b ∈ Plx.aft a n := by rw [← ht2]; simp
      obtain ⟨_, hbn⟩ := Plx.mem_aft.mp hbm
      have hh := row_has (A := A) (a := a) hbn
      have hlen : (pre.flatMap (seg n B) ++ (pre2.filter (B a)).map fun b => (a, b)).length < 100000 := by
        have z : ((pre2.filter (B a)).map fun b => (a, b)).length ≤ (seg n B a).length := by
          unfold seg
          rw [← ht2, List.filter_append, List.length_map, List.length_map, List.length_append]
          omega
        rw [List.length_append]
        omega
      obtain ⟨M, hM⟩ : ∃ M, M = pre.flatMap (seg n B) ++ (pre2.filter (B a)).map fun b => (a, b) := ⟨_, rfl⟩
      have hM2 : (pre.flatMap (seg n B) ++ ((pre2 ++ [b]).filter (B a)).map fun b => (a, b)) = M ++ if B a b = true then [(a, b)] else [] := by
        have q : ((pre2 ++ [b]).filter (B a)).map (fun b => (a, b)) = ((pre2.filter (B a)).map fun b => (a, b)) ++ if B a b = true then [(a, b)] else [] := by
          by_cases c : B a b = true <;> simp [c]
        rw [q, ← List.append_assoc, hM]
      rw [hM2, ← hM]
      rw [← hM] at hlen
      have hBab : B a b = (A a b != (P.contains a != P.contains b)) := by rw [hB]; rfl
      have hc : (tgN 5 (nD b) [.im (wD n A), .im (tN P), .im (rowsD n A), .mu (M.map pD), .im (nD a), s5']).bind (fun e => fB (fOp gNe (fOp (gIn false) (fVar 5) (fOp gIx (fVar 2) (fVar 4))) (fOp gNe (fOp (gIn false) (fVar 4) (fVar 1)) (fOp (gIn false) (fVar 5) (fVar 1)))) e) = some (B a b, [.im (wD n A), .im (tN P), .im (rowsD n A), .mu (M.map pD), .im (nD a), .im (nD b)]) := by
        rw [hBab]
        simp [-Option.map_eq_some_iff, p5', ga, hh, gInN_t]
      have hc2 : tgN 5 (nD b) [.im (wD n A), .im (tN P), .im (rowsD n A), .mu (M.map pD), .im (nD a), s5'] = some [.im (wD n A), .im (tN P), .im (rowsD n A), .mu (M.map pD), .im (nD a), .im (nD b)] := by simp [p5']
      rw [hc2, Option.bind_some] at hc ⊢
      rw [sIf_e, hc, Option.bind_some]
      cases c : B a b with
      | true =>
        refine ⟨_, ?_, .im (nD b), rfl, rfl⟩
        simp [-Option.map_eq_some_iff, hlen]
      | false =>
        refine ⟨_, ?_, .im (nD b), rfl, rfl⟩
        simp
    · exact ⟨s5, p5, by simp⟩
  · exact ⟨.no, .no, rfl, rfl, rfl⟩
end N

set_option Elab.async false
set_option linter.all false
set_option maxRecDepth 100000
set_option maxHeartbeats 1000000
/-! M19: odd triples. -/
namespace N
open PySem
def oT3 (A : Nat → Nat → Bool) (a b c : Nat) : Nat := Plx.oddT A (a, b, c)
def oT2 (n : Nat) (A : Nat → Nat → Bool) (a b : Nat) : Nat := ((Plx.aft b n).map (oT3 A a b)).sum
def oT1 (n : Nat) (A : Nat → Nat → Bool) (a : Nat) : Nat := ((Plx.aft a n).map (oT2 n A a)).sum
theorem sum_flat {α : Type} {f : α → Nat} {g : Nat → List α} {l : List Nat} : ((l.flatMap g).map f).sum = (l.map fun a => ((g a).map f).sum).sum := by
  induction l with
  | nil => rfl
  | cons a l ih => rw [List.flatMap_cons, List.map_append, List.sum_append, List.map_cons, List.sum_cons, ih]
theorem odd_sum {n : Nat} {A : Nat → Nat → Bool} : Plx.odd n A = ((List.range n).map (oT1 n A)).sum := by
  unfold Plx.odd Plx.trips
  rw [sum_flat]
  refine congrArg List.sum (List.map_congr_left fun a _ => ?_)
  rw [sum_flat]
  refine congrArg List.sum (List.map_congr_left fun b _ => ?_)
  rw [List.map_map]
  rfl
@[simp] theorem gII_e {f : Int → Int → Int} {i j : Int} : gII f (.int i) (.int j) = some (.int (f i j)) := rfl
theorem gMod_e {i j : Int} (h : 0 < j) : gMod (.int i) (.int j) = some (.int (i % j)) := by
  unfold gMod gIIc
  simp [h]
theorem odd_ok {n : Nat} {A : Nat → Nat → Bool} (h1 : 1 ≤ n) (h2 : n ≤ 26) (w : Plx.Wb A) : G_odd_triples [wD n A] = some (.ok (nD (Plx.odd n A))) := by
  have hn := wD_need (A := A) h1 h2 "web"
  have hs := sides_ok w h2
  have hr : rgOk 0 (n : Int) = true := rgOk_nat0 (by omega)
  have loop := forGo_ix (tg := tgN 3) (F := sFor (fRg2 (fCons (fOp gAdd (fVar 3) (fC (.int 1))) (fCons (fOp gIx (fVar 0) (fC (.int 0))) (fNil)))) (tgN 4) (sFor (fRg2 (fCons (fOp gAdd (fVar 4) (fC (.int 1))) (fCons (fOp gIx (fVar 0) (fC (.int 0))) (fNil)))) (tgN 5) (sSeq (sAsg (fOp gAdd (fIf (fB (fOp (gIn false) (fVar 4) (fOp gIx (fVar 1) (fVar 3)))) (fC (.int 1)) (fC (.int 0))) (fIf (fB (fOp (gIn false) (fVar 5) (fOp gIx (fVar 1) (fVar 3)))) (fC (.int 1)) (fC (.int 0)))) (tgN 6)) (sAug 2 gAddI (fOp gMod (fOp gAdd (fVar 6) (fIf (fB (fOp (gIn false) (fVar 5) (fOp gIx (fVar 1) (fVar 4)))) (fC (.int 1)) (fC (.int 0)))) (fC (.int 2))))))) (enc := nD)
    (fun pre e => ∃ s3 s4 s5 s6, isPlain (some s3) = true ∧ isPlain (some s4) = true ∧ isPlain (some s5) = true ∧ isPlain (some s6) = true ∧ e = [.im (wD n A), .im (rowsD n A), .im (nD (pre.map (oT1 n A)).sum), s3, s4, s5, s6])
    (xs := List.range n) (pre := []) (e := [.im (wD n A), .im (rowsD n A), .im (.int 0), .no, .no, .no, .no]) ?_ ?_
  · obtain ⟨e', l1, s3, s4, s5, s6, p3, p4, p5, p6, rfl⟩ := loop
    rw [← odd_sum] at l1
    unfold G_odd_triples runP F_odd_triples start0
    simp only [sSeq_e]
    unfold sCallX
    simp [-Option.map_eq_some_iff, hn, hs, hr, rngD_n0, l1]
  · intro pre a post ht e he
    obtain ⟨s3, s4, s5, s6, p3, p4, p5, p6, rfl⟩ := he
    have han : a < n := List.mem_range.mp (by rw [← ht]; simp)
    have ga : (List.range n)[a]? = some a := List.getElem?_range han
    have hr1 : rgOk ((a : Int) + 1) (n : Int) = true := rgOk_nat1 (by omega) (by omega)
    have loop2 := forGo_ix (tg := tgN 4) (F := sFor (fRg2 (fCons (fOp gAdd (fVar 4) (fC (.int 1))) (fCons (fOp gIx (fVar 0) (fC (.int 0))) (fNil)))) (tgN 5) (sSeq (sAsg (fOp gAdd (fIf (fB (fOp (gIn false) (fVar 4) (fOp gIx (fVar 1) (fVar 3)))) (fC (.int 1)) (fC (.int 0))) (fIf (fB (fOp (gIn false) (fVar 5) (fOp gIx (fVar 1) (fVar 3)))) (fC (.int 1)) (fC (.int 0)))) (tgN 6)) (sAug 2 gAddI (fOp gMod (fOp gAdd (fVar 6) (fIf (fB (fOp (gIn false) (fVar 5) (fOp gIx (fVar 1) (fVar 4)))) (fC (.int 1)) (fC (.int 0)))) (fC (.int 2)))))) (enc := nD)
      (fun pre2 e => ∃ s4 s5 s6, isPlain (some s4) = true ∧ isPlain (some s5) = true ∧ isPlain (some s6) = true ∧ e = [.im (wD n A), .im (rowsD n A), .im (nD ((pre.map (oT1 n A)).sum + (pre2.map (oT2 n A a)).sum)), .im (nD a), s4, s5, s6])
      (xs := Plx.aft a n) (pre := []) (e := [.im (wD n A), .im (rowsD n A), .im (nD (pre.map (oT1 n A)).sum), .im (nD a), s4, s5, s6]) ?_ ?_
    · obtain ⟨e2, m1, s4', s5', s6', p4', p5', p6', rfl⟩ := loop2
      refine ⟨_, ?_, .im (nD a), s4', s5', s6', rfl, p4', p5', p6', rfl⟩
      rw [List.map_append, List.sum_append]
      simp [-Option.map_eq_some_iff, p3, hr1, rngD_aft, m1, oT1]
    · intro pre2 b post2 ht2 e he2
      obtain ⟨s4', s5', s6', p4', p5', p6', rfl⟩ := he2
      have hbm : b ∈ Plx.aft a n := by rw [← ht2]; simp
      obtain ⟨hab, hbn⟩ := Plx.mem_aft.mp hbm
      have gb : (List.range n)[b]? = some b := List.getElem?_range hbn
      have hr2 : rgOk ((b : Int) + 1) (n : Int) = true := rgOk_nat1 (by omega) (by omega)
      obtain ⟨K, hK⟩ : ∃ K, K = (pre.map (oT1 n A)).sum + (pre2.map (oT2 n A a)).sum := ⟨_, rfl⟩
      rw [← hK]
      have loop3 := forGo_ix (tg := tgN 5) (F := sSeq (sAsg (fOp gAdd (fIf (fB (fOp (gIn false) (fVar 4) (fOp gIx (fVar 1) (fVar 3)))) (fC (.int 1)) (fC (.int 0))) (fIf (fB (fOp (gIn false) (fVar 5) (fOp gIx (fVar 1) (fVar 3)))) (fC (.int 1)) (fC (.int 0)))) (tgN 6)) (sAug 2 gAddI (fOp gMod (fOp gAdd (fVar 6) (fIf (fB (fOp (gIn false) (fVar 5) (fOp gIx (fVar 1) (fVar 4)))) (fC (.int 1)) (fC (.int 0)))) (fC (.int 2))))) (enc := nD)
        (fun pre3 e => ∃ s5 s6, isPlain (some s5) = true ∧ isPlain (some s6) = true ∧ e = [.im (wD n A), .im (rowsD n A), .im (nD (K + (pre3.map (oT3 A a b)).sum)), .im (nD a), .im (nD b), s5, s6])
        (xs := Plx.aft b n) (pre := []) (e := [.im (wD n A), .im (rowsD n A), .im (nD K), .im (nD a), .im (nD b), s5', s6']) ?_ ?_
      · obtain ⟨e2, m1, s5'', s6'', p5'', p6'', rfl⟩ := loop3
        refine ⟨_, ?_, .im (nD b), s5'', s6'', rfl, p5'', p6'', rfl⟩
        rw [List.map_append, List.sum_append, ← Nat.add_assoc, ← hK]
        simp [-Option.map_eq_some_iff, p4', hr2, rngD_aft, m1, oT2]
      · intro pre3 c post3 ht3 e he3
        obtain ⟨s5'', s6'', p5'', p6'', rfl⟩ := he3
        have hcm : c ∈ Plx.aft b n := by rw [← ht3]; simp
        obtain ⟨hbc, hcn⟩ := Plx.mem_aft.mp hcm
        have q1 := row_has (A := A) (a := a) hbn
        have q2 := row_has (A := A) (a := a) hcn
        have q3 := row_has (A := A) (a := b) hcn
        obtain ⟨L, hL⟩ : ∃ L, L = K + (pre3.map (oT3 A a b)).sum := ⟨_, rfl⟩
        refine ⟨_, ?_, .im (nD c), .im (nD (Plx.bi (A a b) + Plx.bi (A a c))), rfl, rfl, rfl⟩
        rw [List.map_append, List.sum_append, ← Nat.add_assoc, ← hL]
        unfold oT3 Plx.oddT Plx.bi
        cases e1 : A a b <;> cases e2 : A a c <;> cases e3 : A b c <;> simp [-Option.map_eq_some_iff, p5'', p6'', ga, gb, q1, q2, q3, gMod_e, e1, e2, e3]
      · exact ⟨s5', s6', p5', p6', rfl⟩
    · exact ⟨s4, s5, s6, p4, p5, p6, rfl⟩
  · exact ⟨.no, .no, .no, .no, rfl, rfl, rfl, rfl, rfl⟩
end N

set_option Elab.async false
set_option linter.all false
set_option maxRecDepth 100000
set_option maxHeartbeats 1000000
/-! M20: odd triples by the law; tables. -/
namespace N
open PySem
@[simp] theorem gInt_e {i : Int} : gInt (.int i) = some (.int i) := rfl
theorem law_some3 {n : Nat} (h : n ≤ 7) : G__law_some [nD n, .int 3] = some (.ok (.list ((Plx.trips n).map fun t => tN [t.1, t.2.1, t.2.2]))) := by
  have z := law_some_ok (k := 3) h (by omega)
  rw [Plx.some3, List.map_map] at z
  exact z
theorem law_odd_ok {n : Nat} {A : Nat → Nat → Bool} (h2 : n ≤ 7) (w : Plx.Wb A) : G__law_odd_triples [wD n A] = some (.ok (nD (Plx.odd n A))) := by
  have hsm := law_some3 h2
  have hsl : (Plx.trips n).length ≤ 100000 := by
    have z := some_len (k := 3) h2 (by omega)
    rw [Plx.some3, List.length_map] at z
    omega
  have htl := Plx.ties_len (A := A) (show n ≤ 26 by omega)
  have htl2 : (Plx.ties n A).length ≤ 100000 := by omega
  have out : lcGo (tgN 1) (fB (fOp gEq (fOp gMod (fUn gInt (fUn gLen (fLc (fSeq (fOp gIx (fVar 0) (fC (.int 1)))) (tgN 2) (fAnd (fB (fOp (gIn false) (fOp gIx (fVar 2) (fC (.int 0))) (fVar 1))) (fB (fOp (gIn false) (fOp gIx (fVar 2) (fC (.int 1))) (fVar 1)))) (fVar 2) [2]))) (fC (.int 2))) (fC (.int 1)))) (fVar 1) [1] ((Plx.trips n).map fun t => tN [t.1, t.2.1, t.2.2]) [.im (wD n A), .no, .no]
      = some (((Plx.trips n).filter fun t => decide ((Plx.bi (A t.1 t.2.1) + Plx.bi (A t.1 t.2.2) + Plx.bi (A t.2.1 t.2.2)) % 2 = 1)).map (fun t => tN [t.1, t.2.1, t.2.2]), [.im (wD n A), .no, .no]) := by
    refine lcGo_filter fun t ht => ?_
    obtain ⟨a, b, c⟩ := t
    obtain ⟨q1, q2, q3⟩ := Plx.mem_trips ht
    have inn : lcGo (tgN 2) (fAnd (fB (fOp (gIn false) (fOp gIx (fVar 2) (fC (.int 0))) (fVar 1))) (fB (fOp (gIn false) (fOp gIx (fVar 2) (fC (.int 1))) (fVar 1)))) (fVar 2) [2] ((Plx.ties n A).map pD) [.im (wD n A), .im (tN [a, b, c]), .no]
        = some (((Plx.ties n A).filter fun p => [a, b, c].contains p.1 && [a, b, c].contains p.2).map pD, [.im (wD n A), .im (tN [a, b, c]), .no]) := by
      refine lcGo_filter fun p _ => ?_
      have g1 := gInN_t (b := false) (x := p.1) (l := [a, b, c])
      have g2 := gInN_t (b := false) (x := p.2) (l := [a, b, c])
      obtain ⟨D, hD⟩ : ∃ D, D = tN [a, b, c] := ⟨_, rfl⟩
      rw [← hD] at g1 g2 ⊢
      unfold lcStep
      simp [-Option.map_eq_some_iff, g1, g2]
      cases c1 : [a, b, c].contains p.1 <;> cases c2 : [a, b, c].contains p.2 <;> simp only [c1, c2] at g1 g2 <;> simp at c1 c2 <;> simp [-Option.map_eq_some_iff, g1, g2, c1, c2]
    have len := Plx.three_len (A := A) q1 q2 q3
    obtain ⟨M, hM⟩ : ∃ M, M = (Plx.ties n A).filter fun p => [a, b, c].contains p.1 && [a, b, c].contains p.2 := ⟨_, rfl⟩
    rw [← hM] at inn len
    rw [← len]
    have e : (decide (M.length % 2 = 1)) = decide ((M.length : Int) % 2 = 1) := decide_eq_decide.mpr (by omega)
    obtain ⟨D, hD⟩ : ∃ D, D = tN [a, b, c] := ⟨_, rfl⟩
    simp only
    rw [← hD] at inn ⊢
    unfold lcStep
    simp [-Option.map_eq_some_iff, htl2, inn, gMod_e]
    by_cases c1 : M.length % 2 = 1
    · have c2 : (M.length : Int) % 2 = 1 := by omega
      simp [c1, c2]
    · have c2 : ¬ (M.length : Int) % 2 = 1 := by omega
      simp [c1, c2]
  have hof := Plx.odd_filter (n := n) (A := A) (l := Plx.trips n)
  unfold G__law_odd_triples runP F__law_odd_triples start0
  obtain ⟨Z, hZ⟩ : ∃ Z, Z = (Plx.trips n).filter fun t => decide ((Plx.bi (A t.1 t.2.1) + Plx.bi (A t.1 t.2.2) + Plx.bi (A t.2.1 t.2.2)) % 2 = 1) := ⟨_, rfl⟩
  rw [← hZ] at out hof
  simp [-Option.map_eq_some_iff, hsm, hsl, out]
  unfold Plx.odd
  rw [← hof]
/-! tables -/
abbrev tabD (n : Nat) (a : Plx.Mx) : PyData := .list ((List.range n).map fun i => .list ((List.range n).map fun j => .int (a i j)))
theorem tab_congr {n : Nat} {a b : Plx.Mx} (h : ∀ i j, i < n → j < n → a i j = b i j) : tabD n a = tabD n b := by
  unfold tabD
  congr 1
  refine List.map_congr_left fun i hi => ?_
  congr 1
  refine List.map_congr_left fun j hj => ?_
  rw [h i j (List.mem_range.mp hi) (List.mem_range.mp hj)]
theorem table_ok {n : Nat} {A : Nat → Nat → Bool} (h2 : n ≤ 26) (w : Plx.Wb A) : G_table [wD n A] = some (.ok (tabD n (Plx.mx A))) := by
  have hs := sides_ok w h2
  have hr : rgOk 0 (n : Int) = true := rgOk_nat0 (by omega)
  have out : lcGo (tgN 2) (fYes) (fLc (fRg1 (fOp gIx (fVar 0) (fC (.int 0)))) (tgN 3) (fYes) (fIf (fB (fOp (gIn false) (fVar 3) (fOp gIx (fVar 1) (fVar 2)))) (fC (.int 1)) (fC (.int 0))) [3]) [2] ((List.range n).map nD) [.im (wD n A), .im (rowsD n A), .no, .no]
      = some ((List.range n).map (fun i => .list ((List.range n).map fun j => .int (Plx.mx A i j))), [.im (wD n A), .im (rowsD n A), .no, .no]) := by
    refine lcGo_map fun i hi => ?_
    have gi : (List.range n)[i]? = some i := List.getElem?_range (List.mem_range.mp hi)
    have inn : lcGo (tgN 3) (fYes) (fIf (fB (fOp (gIn false) (fVar 3) (fOp gIx (fVar 1) (fVar 2)))) (fC (.int 1)) (fC (.int 0))) [3] ((List.range n).map nD) [.im (wD n A), .im (rowsD n A), .im (nD i), .no]
        = some ((List.range n).map (fun j => .int (Plx.mx A i j)), [.im (wD n A), .im (rowsD n A), .im (nD i), .no]) := by
      refine lcGo_map fun j hj => ?_
      have q := row_has (A := A) (a := i) (List.mem_range.mp hj)
      unfold lcStep Plx.mx
      cases c : A i j <;> rw [c] at q <;> simp [-Option.map_eq_some_iff, gi, q]
    unfold lcStep
    simp [-Option.map_eq_some_iff, hr, rngD_n0, inn]
  unfold G_table runP F_table start0
  simp only [sSeq_e]
  simp [-Option.map_eq_some_iff, hs, hr, rngD_n0, out]
theorem trace_ok {n : Nat} {a : Plx.Mx} (h2 : n ≤ 26) : G_trace [tabD n a] = some (.ok (.int (Plx.tr n a))) := by
  have hr : rgOk 0 (n : Int) = true := rgOk_nat0 (by omega)
  have inn : lcGo (tgN 1) (fYes) (fOp gIx (fOp gIx (fVar 0) (fVar 1)) (fVar 1)) [1] ((List.range n).map nD) [.im (tabD n a), .no] = some ((List.range n).map (fun i => .int (a i i)), [.im (tabD n a), .no]) := by
    refine lcGo_map fun i hi => ?_
    have gi : (List.range n)[i]? = some i := List.getElem?_range (List.mem_range.mp hi)
    unfold lcStep
    simp [-Option.map_eq_some_iff, gi]
  have sm := Plx.S_list n fun i => a i i
  have ii := intsOf_f (f := fun i => a i i) (xs := List.range n)
  unfold G_trace runP F_trace start0
  simp [-Option.map_eq_some_iff, hr, rngD_n0, inn, ii]
  exact sm
end N

set_option Elab.async false
set_option linter.all false
set_option maxRecDepth 100000
set_option maxHeartbeats 1000000
/-! M21: products, closed walks, polynomials. -/
namespace N
open PySem
def Sm (n : Nat) (a : Plx.Mx) : Prop := ∀ i j, i < n → j < n → small64 (a i j) = true
theorem Sm.mx {n : Nat} {A : Nat → Nat → Bool} : Sm n (Plx.mx A) := fun i j _ _ => by
  unfold Plx.mx
  split <;> decide
theorem gMul_e {i j : Int} (h : small64 i = true ∨ small64 j = true) : gMul (.int i) (.int j) = some (.int (i * j)) := by
  show (if (small64 i || small64 j) = true then some (PyData.int (i * j)) else none) = _
  rw [if_pos]
  rcases h with h | h <;> simp [h]
theorem times_ok {n : Nat} {a b : Plx.Mx} (h2 : n ≤ 26) (hs : Sm n a ∨ Sm n b) : G_times [tabD n a, tabD n b] = some (.ok (tabD n (Plx.mul n a b))) := by
  have hr : rgOk 0 (n : Int) = true := rgOk_nat0 (by omega)
  have hn : n ≤ 100000 := by omega
  have cols : lcGo (tgN 3) (fYes) (fLc (fSeq (fVar 1)) (tgN 4) (fYes) (fOp gIx (fVar 4) (fVar 3)) [4]) [3] ((List.range n).map nD) [.im (tabD n a), .im (tabD n b), .no, .no, .no, .no]
      = some ((List.range n).map (fun j => .list ((List.range n).map fun i => .int (b i j))), [.im (tabD n a), .im (tabD n b), .no, .no, .no, .no]) := by
    refine lcGo_map fun j hj => ?_
    have gj : (List.range n)[j]? = some j := List.getElem?_range (List.mem_range.mp hj)
    have inn : lcGo (tgN 4) (fYes) (fOp gIx (fVar 4) (fVar 3)) [4] ((List.range n).map fun i => .list ((List.range n).map fun j => .int (b i j))) [.im (tabD n a), .im (tabD n b), .no, .im (nD j), .no, .no]
        = some ((List.range n).map (fun i => .int (b i j)), [.im (tabD n a), .im (tabD n b), .no, .im (nD j), .no, .no]) := by
      refine lcGo_map (enc := fun i => PyData.list ((List.range n).map fun j => .int (b i j))) fun i hi => ?_
      unfold lcStep
      simp [-Option.map_eq_some_iff, gj]
    unfold lcStep
    simp [-Option.map_eq_some_iff, hn, inn]
  have out : lcGo (tgN 4) (fYes) (fLc (fSeq (fVar 2)) (tgN 5) (fYes) (fUn gSum (fLc (fRg1 (fUn gLen (fVar 4))) (tgN 3) (fYes) (fOp gMul (fOp gIx (fVar 4) (fVar 3)) (fOp gIx (fVar 5) (fVar 3))) [3])) [5]) [4] ((List.range n).map fun i => .list ((List.range n).map fun j => .int (a i j))) [.im (tabD n a), .im (tabD n b), .im (.list ((List.range n).map fun j => .list ((List.range n).map fun i => .int (b i j)))), .no, .no, .no]
      = some ((List.range n).map (fun i => .list ((List.range n).map fun j => .int (Plx.mul n a b i j))), [.im (tabD n a), .im (tabD n b), .im (.list ((List.range n).map fun j => .list ((List.range n).map fun i => .int (b i j)))), .no, .no, .no]) := by
    refine lcGo_map (enc := fun i => PyData.list ((List.range n).map fun j => .int (a i j))) fun i hi => ?_
    have inn : lcGo (tgN 5) (fYes) (fUn gSum (fLc (fRg1 (fUn gLen (fVar 4))) (tgN 3) (fYes) (fOp gMul (fOp gIx (fVar 4) (fVar 3)) (fOp gIx (fVar 5) (fVar 3))) [3])) [5] ((List.range n).map fun j => .list ((List.range n).map fun i => .int (b i j))) [.im (tabD n a), .im (tabD n b), .im (.list ((List.range n).map fun j => .list ((List.range n).map fun i => .int (b i j)))), .no, .im (.list ((List.range n).map fun j => .int (a i j))), .no]
        = some ((List.range n).map (fun j => .int (Plx.mul n a b i j)), [.im (tabD n a), .im (tabD n b), .im (.list ((List.range n).map fun j => .list ((List.range n).map fun i => .int (b i j)))), .no, .im (.list ((List.range n).map fun j => .int (a i j))), .no]) := by
      refine lcGo_map (enc := fun j => PyData.list ((List.range n).map fun i => .int (b i j))) fun j hj => ?_
      have inn2 : lcGo (tgN 3) (fYes) (fOp gMul (fOp gIx (fVar 4) (fVar 3)) (fOp gIx (fVar 5) (fVar 3))) [3] ((List.range n).map nD) [.im (tabD n a), .im (tabD n b), .im (.list ((List.range n).map fun j => .list ((List.range n).map fun i => .int (b i j)))), .no, .im (.list ((List.range n).map fun j => .int (a i j))), .im (.list ((List.range n).map fun i => .int (b i j)))]
          = some ((List.range n).map (fun k => .int (a i k * b k j)), [.im (tabD n a), .im (tabD n b), .im (.list ((List.range n).map fun j => .list ((List.range n).map fun i => .int (b i j)))), .no, .im (.list ((List.range n).map fun j => .int (a i j))), .im (.list ((List.range n).map fun i => .int (b i j)))]) := by
        refine lcGo_map fun k hk => ?_
        have gk : (List.range n)[k]? = some k := List.getElem?_range (List.mem_range.mp hk)
        have m := gMul_e (i := a i k) (j := b k j) (hs.imp (fun h => h i k (List.mem_range.mp hi) (List.mem_range.mp hk)) (fun h => h k j (List.mem_range.mp hk) (List.mem_range.mp hj)))
        unfold lcStep
        simp [-Option.map_eq_some_iff, gk, m]
      have sm := Plx.S_list n fun k => a i k * b k j
      have ii := intsOf_f (f := fun k => a i k * b k j) (xs := List.range n)
      unfold lcStep
      simp [-Option.map_eq_some_iff, hr, rngD_n0, inn2, ii, sm]
      rfl
    unfold lcStep
    simp [-Option.map_eq_some_iff, hn, inn]
  unfold G_times runP F_times start0
  simp only [sSeq_e]
  simp [-Option.map_eq_some_iff, hr, rngD_n0, cols]
  simp [-Option.map_eq_some_iff, hn, out]
theorem one_ok {n i j : Nat} {en : En} {w0 : List PyData} (h2 : n ≤ 26) (hi : en[i]? = some .no) (hj : en[j]? = some .no) (hij : i ≠ j) (h0 : en[0]? = some (.im (.tuple (nD n :: w0)))) (hi0 : i ≠ 0) (hj0 : j ≠ 0) :
    lcGo (tgN i) (fYes) (fLc (fRg1 (fOp gIx (fVar 0) (fC (.int 0)))) (tgN j) (fYes) (fIf (fB (fOp gEq (fVar i) (fVar j))) (fC (.int 1)) (fC (.int 0))) [j]) [i] ((List.range n).map nD) en = some ((List.range n).map (fun a => .list ((List.range n).map fun b => .int (Plx.one a b))), en) := by
  have hr : rgOk 0 (n : Int) = true := rgOk_nat0 (by omega)
  have li : i < en.length := by rw [List.getElem?_eq_some_iff] at hi; exact hi.1
  have lj : j < en.length := by rw [List.getElem?_eq_some_iff] at hj; exact hj.1
  have back : ∀ {k : Nat} {s : Sl}, en[k]? = some .no → (en.set k s).set k .no = en := fun {k s} h => by
    rw [List.set_set]
    refine List.ext_getElem? fun m => ?_
    rw [List.getElem?_set]
    split
    · rename_i e
      subst e
      split
      · exact h.symm
      · rename_i c
        rw [List.getElem?_eq_some_iff] at h
        exact absurd h.1 c
    · rfl
  refine lcGo_map fun a ha => ?_
  have inn : lcGo (tgN j) (fYes) (fIf (fB (fOp gEq (fVar i) (fVar j))) (fC (.int 1)) (fC (.int 0))) [j] ((List.range n).map nD) (en.set i (.im (nD a))) = some ((List.range n).map (fun b => .int (Plx.one a b)), en.set i (.im (nD a))) := by
    refine lcGo_map fun b hb => ?_
    have e1 : (en.set i (.im (nD a)))[j]? = some .no := by rw [List.getElem?_set_ne hij, hj]
    have e2 : ((en.set i (.im (nD a))).set j (.im (nD b)))[i]? = some (.im (nD a)) := by
      rw [List.getElem?_set_ne (fun z => hij z.symm), List.getElem?_set_self li]
    have e3 : ((en.set i (.im (nD a))).set j (.im (nD b)))[j]? = some (.im (nD b)) := by
      rw [List.getElem?_set_self (by rw [List.length_set]; exact lj)]
    have e4 : ((en.set i (.im (nD a))).set j (.im (nD b))).set j .no = en.set i (.im (nD a)) := by
      rw [List.set_set]
      refine List.ext_getElem? fun m => ?_
      rw [List.getElem?_set]
      split
      · rename_i e
        subst e
        rw [e1, if_pos (by rw [List.length_set]; exact lj)]
      · rfl
    unfold lcStep Plx.one
    by_cases c : a = b
    · subst c
      simp [-Option.map_eq_some_iff, e1, e2, e3, e4]
    · have c2 : ¬ (a : Int) = (b : Int) := by omega
      simp [-Option.map_eq_some_iff, e1, e2, e3, e4, c, c2]
  have e0 : (en.set i (.im (nD a)))[0]? = some (.im (.tuple (nD n :: w0))) := by rw [List.getElem?_set_ne hi0, h0]
  have e1 : (en.set i (.im (nD a)))[j]? = some .no := by rw [List.getElem?_set_ne hij, hj]
  have e4 : (en.set i (.im (nD a))).set j .no = en.set i (.im (nD a)) := by
    refine List.ext_getElem? fun m => ?_
    rw [List.getElem?_set]
    split
    · rename_i e
      subst e
      rw [e1, if_pos (by rw [List.length_set]; exact lj)]
    · rfl
  unfold lcStep
  simp [-Option.map_eq_some_iff, hi, e0, e1, e4, hr, rngD_n0, inn]
  have z := back (s := .no) hi
  rw [List.set_set] at z
  exact z
end N

set_option Elab.async false
set_option linter.all false
set_option maxRecDepth 100000
set_option maxHeartbeats 1000000
/-! M22: closed walks, polynomials. -/
namespace N
open PySem
def pw (n : Nat) (a : Plx.Mx) : Nat → Plx.Mx
  | 0 => Plx.one
  | k + 1 => Plx.mul n (pw n a k) a
theorem need_integer_ok {i a b : Int} {nm : Str} (h1 : a ≤ i) (h2 : i ≤ b) : G_need_integer [.int i, .str nm, .int a, .int b] = some (.ok .none) := by
  have c1 : ¬ i < a := by omega
  have c2 : ¬ b < i := by omega
  unfold G_need_integer runP F_need_integer start0
  simp [c1, c2]
theorem walks_ok {n k : Nat} {A : Nat → Nat → Bool} (h1 : 1 ≤ n) (h2 : n ≤ 26) (w : Plx.Wb A) (hk : k ≤ 12) : G_closed_walks [wD n A, nD k] = some (.ok (.int (Plx.tr n (pw n (Plx.mx A) k)))) := by
  have hn := wD_need (A := A) h1 h2 "web"
  have hi := need_integer_ok (i := (k : Int)) (a := 0) (b := 12) (nm := "many") (by omega) (by omega)
  have ht := table_ok (A := A) h2 w
  have hr : rgOk 0 (n : Int) = true := rgOk_nat0 (by omega)
  have hrk : rgOk 0 (k : Int) = true := rgOk_nat0 (by omega)
  have one := one_ok (n := n) (i := 5) (j := 6) (en := [.im (wD n A), .im (nD k), .im (tabD n (Plx.mx A)), .no, .no, .no, .no]) (w0 := [.tuple ((Plx.ties n A).map pD)]) h2 rfl rfl (by decide) rfl (by decide) (by decide)
  have loop := forGo_ix (tg := tgN 4) (F := sAsg (fCall G_times (fCons (fVar 3) (fCons (fVar 2) (fNil)))) (tgN 3)) (enc := nD)
    (fun pre e => ∃ s4, isPlain (some s4) = true ∧ e = [.im (wD n A), .im (nD k), .im (tabD n (Plx.mx A)), .im (tabD n (pw n (Plx.mx A) pre.length)), s4, .no, .no])
    (xs := List.range k) (pre := []) (e := [.im (wD n A), .im (nD k), .im (tabD n (Plx.mx A)), .im (tabD n Plx.one), .no, .no, .no]) ?_ ?_
  · obtain ⟨e', l1, s4, p4, rfl⟩ := loop
    rw [List.length_range] at l1
    have tr := trace_ok (a := pw n (Plx.mx A) k) h2
    unfold G_closed_walks runP F_closed_walks start0
    simp only [sSeq_e]
    unfold sCallX
    simp [-Option.map_eq_some_iff, hn, hi, ht, hr, hrk, rngD_n0, one]
    simp [-Option.map_eq_some_iff, l1, tr]
  · intro pre t post ht e he
    obtain ⟨s4, p4, rfl⟩ := he
    have tm := times_ok (a := pw n (Plx.mx A) pre.length) (b := Plx.mx A) h2 (.inr Sm.mx)
    refine ⟨_, ?_, .im (nD t), rfl, rfl⟩
    rw [List.length_append, List.length_singleton]
    simp [-Option.map_eq_some_iff, p4, tm]
    intro a _ b _
    rfl
  · exact ⟨.no, rfl, rfl⟩
def nextH (n : Nat) (a h : Plx.Mx) (k : Nat) : Plx.Mx := fun i j => Plx.mul n a h i j + if i = j then 0 - Plx.tr n (Plx.mul n a h) / ((k : Int) + 1) else 0
def poH (n : Nat) (a : Plx.Mx) : Nat → Plx.Mx
  | 0 => Plx.one
  | k + 1 => nextH n a (poH n a k) k
def poN (n : Nat) (a : Plx.Mx) (k : Nat) : Int := 0 - Plx.tr n (Plx.mul n a (poH n a k)) / ((k : Int) + 1)
def poL (n : Nat) (a : Plx.Mx) (k : Nat) : List Int := 1 :: (List.range k).map (poN n a)
theorem gDiv_e {i j : Int} (h : 0 < j) (h2 : j < 1000) : gDiv (.int i) (.int j) = some (.int (i / j)) := by
  unfold gDiv gIIc
  have h3 : j < 1073741824 := by omega
  simp [h, h3]
theorem poly_ok {n : Nat} {A : Nat → Nat → Bool} (h1 : 1 ≤ n) (h2 : n ≤ 26) (w : Plx.Wb A) : G_polynomial [wD n A] = some (.ok (.tuple ((poL n (Plx.mx A) n).reverse.map .int))) := by
  have hn := wD_need (A := A) h1 h2 "web"
  have ht := table_ok (A := A) h2 w
  have hr : rgOk 0 (n : Int) = true := rgOk_nat0 (by omega)
  have hr1 : rgOk 1 ((n : Int) + 1) = true := rgOk_small (by omega) (by omega) (by omega) (by omega)
  have one := one_ok (n := n) (i := 7) (j := 8) (en := [.im (wD n A), .im (tabD n (Plx.mx A)), .mu [.int 1], .no, .no, .no, .no, .no, .no, .no, .no]) (w0 := [.tuple ((Plx.ties n A).map pD)]) h2 rfl rfl (by decide) rfl (by decide) (by decide)
  have loop := forGo_ix (tg := tgN 4) (F := sSeq (sAsg (fCall G_times (fCons (fVar 1) (fCons (fVar 3) (fNil)))) (tgN 5)) (sSeq (sAsg (fOp gSubI (fC (.int 0)) (fOp gDiv (fCall G_trace (fCons (fVar 5) (fNil))) (fVar 4))) (tgN 6)) (sSeq (sDrop (fApp 2 (fVar 6))) (sAsg (fLc (fRg1 (fOp gIx (fVar 0) (fC (.int 0)))) (tgN 9) (fYes) (fLc (fRg1 (fOp gIx (fVar 0) (fC (.int 0)))) (tgN 10) (fYes) (fOp gAdd (fOp gIx (fOp gIx (fVar 5) (fVar 9)) (fVar 10)) (fIf (fB (fOp gEq (fVar 9) (fVar 10))) (fVar 6) (fC (.int 0)))) [10]) [9]) (tgN 3))))) (enc := nD)
    (fun pre e => ∃ s4 s5 s6, isPlain (some s4) = true ∧ isPlain (some s5) = true ∧ isPlain (some s6) = true ∧ e = [.im (wD n A), .im (tabD n (Plx.mx A)), .mu ((poL n (Plx.mx A) pre.length).map .int), .im (tabD n (poH n (Plx.mx A) pre.length)), s4, s5, s6, .no, .no, .no, .no])
    (xs := List.range' 1 n) (pre := []) (e := [.im (wD n A), .im (tabD n (Plx.mx A)), .mu [.int 1], .im (tabD n Plx.one), .no, .no, .no, .no, .no, .no, .no]) ?_ ?_
  · obtain ⟨e', l1, s4, s5, s6, p4, p5, p6, rfl⟩ := loop
    rw [List.length_range'] at l1
    have sb : (n : Int) + 1 - 1 = (n : Int) := by omega
    have sb2 : ((n : Int) + 1 - 1).toNat = n := by omega
    unfold G_polynomial runP F_polynomial start0
    simp only [sSeq_e]
    unfold sCallX
    simp [-Option.map_eq_some_iff, hn, ht, hr, rngD_n0, one]
    simp [-Option.map_eq_some_iff, hr1, sb, sb2, rngD_l1, l1, gRev]
  · intro pre t post ht e he
    obtain ⟨s4, s5, s6, p4, p5, p6, rfl⟩ := he
    have hpl : pre.length + 1 ≤ n := by
      have := congrArg List.length ht
      simp at this
      omega
    have htt : t = pre.length + 1 := by
      have z := congrArg (fun l => l[pre.length]?) ht
      simp at z
      rw [List.getElem?_range' (by omega)] at z
      simp at z
      omega
    obtain ⟨m, hm⟩ : ∃ m, m = pre.length := ⟨_, rfl⟩
    rw [List.length_append, List.length_singleton]
    rw [← hm] at htt hpl ⊢
    obtain ⟨h, hh⟩ : ∃ h, h = poH n (Plx.mx A) m := ⟨_, rfl⟩
    have tm := times_ok (a := Plx.mx A) (b := h) h2 (.inl Sm.mx)
    obtain ⟨pr, hp⟩ : ∃ pr, pr = Plx.mul n (Plx.mx A) h := ⟨_, rfl⟩
    rw [← hp] at tm
    have tr := trace_ok (a := pr) h2
    obtain ⟨x, hx⟩ : ∃ x : Int, x = 0 - Plx.tr n pr / ((m : Int) + 1) := ⟨_, rfl⟩
    have dv := gDiv_e (i := Plx.tr n pr) (j := (m : Int) + 1) (by omega) (by omega)
    have hL : poL n (Plx.mx A) (m + 1) = poL n (Plx.mx A) m ++ [x] := by
      unfold poL
      rw [List.range_succ, List.map_append, hx, hp, hh]
      rfl
    have hH : poH n (Plx.mx A) (m + 1) = fun i j => pr i j + if i = j then x else 0 := by
      show nextH n (Plx.mx A) (poH n (Plx.mx A) m) m = _
      unfold nextH
      rw [← hh, ← hp, ← hx]
    have hlen : (poL n (Plx.mx A) m).length < 100000 := by
      unfold poL
      simp
      omega
    obtain ⟨L, hLL⟩ : ∃ L, L = poL n (Plx.mx A) m := ⟨_, rfl⟩
    rw [hL, hH, ← hh, ← hLL]
    rw [← hLL] at hlen
    have out : lcGo (tgN 9) (fYes) (fLc (fRg1 (fOp gIx (fVar 0) (fC (.int 0)))) (tgN 10) (fYes) (fOp gAdd (fOp gIx (fOp gIx (fVar 5) (fVar 9)) (fVar 10)) (fIf (fB (fOp gEq (fVar 9) (fVar 10))) (fVar 6) (fC (.int 0)))) [10]) [9] ((List.range n).map nD) [.im (wD n A), .im (tabD n (Plx.mx A)), .mu (L.map .int ++ [.int x]), .im (tabD n h), .im (nD t), .im (tabD n pr), .im (.int x), .no, .no, .no, .no]
        = some ((List.range n).map (fun i => .list ((List.range n).map fun j => .int (pr i j + if i = j then x else 0))), [.im (wD n A), .im (tabD n (Plx.mx A)), .mu (L.map .int ++ [.int x]), .im (tabD n h), .im (nD t), .im (tabD n pr), .im (.int x), .no, .no, .no, .no]) := by
      refine lcGo_map fun i hi => ?_
      have gi : (List.range n)[i]? = some i := List.getElem?_range (List.mem_range.mp hi)
      have inn : lcGo (tgN 10) (fYes) (fOp gAdd (fOp gIx (fOp gIx (fVar 5) (fVar 9)) (fVar 10)) (fIf (fB (fOp gEq (fVar 9) (fVar 10))) (fVar 6) (fC (.int 0)))) [10] ((List.range n).map nD) [.im (wD n A), .im (tabD n (Plx.mx A)), .mu (L.map .int ++ [.int x]), .im (tabD n h), .im (nD t), .im (tabD n pr), .im (.int x), .no, .no, .im (nD i), .no]
          = some ((List.range n).map (fun j => .int (pr i j + if i = j then x else 0)), [.im (wD n A), .im (tabD n (Plx.mx A)), .mu (L.map .int ++ [.int x]), .im (tabD n h), .im (nD t), .im (tabD n pr), .im (.int x), .no, .no, .im (nD i), .no]) := by
        refine lcGo_map fun j hj => ?_
        have gj : (List.range n)[j]? = some j := List.getElem?_range (List.mem_range.mp hj)
        unfold lcStep
        by_cases c : i = j
        · subst c
          simp [-Option.map_eq_some_iff, gi]
        · have c2 : ¬ (i : Int) = (j : Int) := by omega
          simp [-Option.map_eq_some_iff, gi, gj, c, c2]
      unfold lcStep
      simp [-Option.map_eq_some_iff, hr, rngD_n0, inn]
    have ti : (t : Int) = (m : Int) + 1 := by omega
    refine ⟨_, ?_, .im (nD t), .im (tabD n pr), .im (.int x), rfl, rfl, rfl, rfl⟩
    have x0 : (0 : Int) - Plx.tr n pr / ((m : Int) + 1) = x := hx.symm
    have x1 : -(Plx.tr n pr / ((m : Int) + 1)) = x := by omega
    simp only [← ti] at dv x0 x1
    simp [-Option.map_eq_some_iff, p4, p5, p6, tm, tr, dv, x0, x1, hlen]
    simp [-Option.map_eq_some_iff, hr, rngD_n0, out]
  · exact ⟨.no, .no, .no, rfl, rfl, rfl, rfl⟩
end N

set_option Elab.async false
set_option linter.all false
set_option maxRecDepth 100000
set_option maxHeartbeats 1000000
/-! M23: dice. -/
namespace N
open PySem
/-- good dice, rolled at most k times -/
def Dc (k : Nat) (dd : List PyData) : Prop := ∃ i m c : Int, dd = [.int i, .int m, .int c] ∧ 0 ≤ i ∧ 0 ≤ m ∧ m < 2147480009 ∧ 0 ≤ c ∧ c ≤ (k : Int)
theorem Dc.mono {k l : Nat} {dd : List PyData} (h : Dc k dd) (hl : k ≤ l) : Dc l dd := by
  obtain ⟨i, m, c, h0, h1, h2, h3, h4, h5⟩ := h
  exact ⟨i, m, c, h0, h1, h2, h3, h4, by omega⟩
theorem ixN_0 {n : Nat} (h : 0 < n) : L2.ixN n 0 = some 0 := by
  unfold L2.ixN
  simp [h]
theorem ixN_c {n k : Nat} (h : k < n) : L2.ixN n (k : Int) = some k := by
  unfold L2.ixN
  rw [if_pos (by omega)]
  simp [h]
theorem roll_ok {k many : Nat} {dd : List PyData} (h : Dc k dd) (hk : k ≤ 1000000) (m1 : 1 ≤ many) (m2 : many < 1000) : ∃ dd' r, G__law_roll dd [nD many] = some (dd', nD r) ∧ r < many ∧ Dc (k + 1) dd' := by
  obtain ⟨i, m, c, rfl, h1, h2, h3, h4, h5⟩ := h
  have i0 : L2.ixN 3 0 = some 0 := by decide
  have i1 : L2.ixN 3 1 = some 1 := by decide
  have i2 : L2.ixN 3 2 = some 2 := by decide
  have mp : (0 : Int) < (many : Int) := by omega
  by_cases c1 : 0 < i
  · have q1 := Int.emod_nonneg i (show (many : Int) ≠ 0 by omega)
    have q2 := Int.emod_lt_of_pos i mp
    have q3 : 0 ≤ i / (many : Int) := Int.ediv_nonneg (by omega) (by omega)
    refine ⟨_, (i % (many : Int)).toNat, ?_, by omega, i / (many : Int), m, c, rfl, q3, h2, h3, h4, by omega⟩
    have q4 : ((i % (many : Int)).toNat : Int) = i % (many : Int) := Int.toNat_of_nonneg q1
    have dv := gDiv_e (i := i) (j := (many : Int)) mp (by omega)
    have md := gMod_e (i := i) (j := (many : Int)) mp
    unfold nD
    rw [q4]
    unfold G__law_roll runD F__law_roll startD
    simp [-Option.map_eq_some_iff, c1, i0, i1, i2, dv, md, resD]
  · have q0 : 0 ≤ m * 52501 + (c + 1) * (c + 1) * 1009 + 77 := by
      have : 0 ≤ (c + 1) * (c + 1) := Int.mul_nonneg (by omega) (by omega)
      omega
    have md1 := gMod_e (i := m * 52501 + (c + 1) * (c + 1) * 1009 + 77) (j := 2147480009) (by decide)
    obtain ⟨m', hm'⟩ : ∃ m', m' = (m * 52501 + (c + 1) * (c + 1) * 1009 + 77) % 2147480009 := ⟨_, rfl⟩
    have r1 : 0 ≤ m' := by rw [hm']; exact Int.emod_nonneg _ (by decide)
    have r2 : m' < 2147480009 := by rw [hm']; exact Int.emod_lt_of_pos _ (by decide)
    have q1 := Int.emod_nonneg (m' / 211) (show (many : Int) ≠ 0 by omega)
    have q2 := Int.emod_lt_of_pos (m' / 211) mp
    refine ⟨_, (m' / 211 % (many : Int)).toNat, ?_, by omega, i, m', c + 1, rfl, h1, r1, r2, by omega, by omega⟩
    have q4 : ((m' / 211 % (many : Int)).toNat : Int) = m' / 211 % (many : Int) := Int.toNat_of_nonneg q1
    have dv := gDiv_e (i := m') (j := 211) (by decide) (by decide)
    have md := gMod_e (i := m' / 211) (j := (many : Int)) mp
    have sc : small64 (c + 1) = true := by
      unfold small64
      have : (2 : Int) ^ 64 = 18446744073709551616 := by decide
      simp
      omega
    have ml1 := gMul_e (i := m) (j := 52501) (.inr (by decide))
    have ml2 := gMul_e (i := c + 1) (j := c + 1) (.inl sc)
    have ml3 := gMul_e (i := (c + 1) * (c + 1)) (j := 1009) (.inr (by decide))
    rw [← hm'] at md1
    unfold nD
    rw [q4]
    unfold G__law_roll runD F__law_roll startD
    simp [-Option.map_eq_some_iff, c1, i0, i1, i2, dv, md, resD, ml1, ml2, ml3, md1]
theorem pick_ok {k : Nat} {dd ds : List PyData} (h : Dc k dd) (hk : k ≤ 1000000) (m1 : 1 ≤ ds.length) (m2 : ds.length < 1000) : ∃ dd' d, G__law_pick dd [.list ds] = some (dd', d) ∧ d ∈ ds ∧ Dc (k + 1) dd' := by
  obtain ⟨dd', r, e, hr, hd⟩ := roll_ok h hk m1 m2
  have g : ds[r]? = some ds[r] := List.getElem?_eq_getElem hr
  refine ⟨dd', ds[r], ?_, List.getElem_mem _, hd⟩
  unfold G__law_pick runD F__law_pick startD
  simp [-Option.map_eq_some_iff, e, g, resD]
/-- a comprehension that changes the state -/
theorem lcGo_st {α : Type} {tg : FG} {ft : FB} {fe : FE} {vs : List Nat} {enc f : α → PyData} (P : Nat → En → Prop) : ∀ {xs : List α} {j : Nat} {e : En}, (∀ x ∈ xs, ∀ j' e, j ≤ j' → j' < j + xs.length → P j' e → ∃ r e', lcStep tg ft fe vs (enc x) e = some (r, e') ∧ (r = none ∨ r = some (f x)) ∧ P (j' + 1) e') → P j e →
    ∃ (ys : List α) (e' : En), lcGo tg ft fe vs (xs.map enc) e = some (ys.map f, e') ∧ ys.Sublist xs ∧ P (j + xs.length) e'
  | [], j, e, _, h => ⟨[], e, rfl, List.Sublist.refl _, h⟩
  | x :: xs, j, e, hs, h => by
    obtain ⟨r, e1, h1, h2, h3⟩ := hs x List.mem_cons_self j e (Nat.le_refl _) (by simp) h
    obtain ⟨ys, e2, g1, g2, g3⟩ := lcGo_st P (xs := xs) (j := j + 1) (fun y hy j' e a b => hs y (List.mem_cons_of_mem _ hy) j' e (by omega) (by rw [List.length_cons]; omega)) h3
    have len : j + (x :: xs).length = j + 1 + xs.length := by rw [List.length_cons]; omega
    rw [List.map_cons, lcGo_step, h1, len]
    simp only [Option.bind_some]
    rw [g1]
    rcases h2 with rfl | rfl
    · exact ⟨ys, e2, rfl, g2.cons x, g3⟩
    · exact ⟨x :: ys, e2, rfl, g2.cons₂ x, g3⟩
theorem erase_map {α β : Type} {f : α → β} : ∀ {l : List α} {r : Nat}, (l.map f).eraseIdx r = (l.eraseIdx r).map f
  | [], _ => rfl
  | _ :: _, 0 => rfl
  | x :: l, r + 1 => by
    show f x :: (l.map f).eraseIdx r = f x :: (l.eraseIdx r).map f
    rw [erase_map]
theorem erase_perm {α : Type} : ∀ {l : List α} {r : Nat} (h : r < l.length), ([l[r]] ++ l.eraseIdx r).Perm l
  | [], _, h => absurd h (by simp)
  | x :: l, 0, _ => List.Perm.refl _
  | x :: l, r + 1, h => by
    show (l[r]'(by simpa using h) :: x :: l.eraseIdx r).Perm (x :: l)
    exact (List.Perm.swap _ _ _).trans ((erase_perm (l := l) (r := r) (by simpa using h)).cons x)
theorem shuf_ok {k n : Nat} {dd : List PyData} (h : Dc k dd) (hk : k ≤ 900000) (h2 : n ≤ 7) : ∃ dd' l, G__law_shuffled dd [nD n] = some (dd', tN l) ∧ l.Perm (List.range n) ∧ Dc (k + n) dd' := by
  have hr : rgOk 0 (n : Int) = true := rgOk_nat0 (by omega)
  have loop := forGo_ix (tg := tgN 4) (F := sDrop (fApp 3 (fPopAt 2 (fCallD 0 G__law_roll (fCons (fUn gLen (fMu 2)) (fNil)))))) (enc := nD)
    (fun pre e => ∃ (dd' : List PyData) (l f : List Nat) (s4 : Sl), isPlain (some s4) = true ∧ Dc (k + pre.length) dd' ∧ (f ++ l).Perm (List.range n) ∧ l.length + pre.length = n ∧ e = [.mu dd', .im (nD n), .mu (l.map nD), .mu (f.map nD), s4])
    (xs := List.range n) (pre := []) (e := [.mu dd, .im (nD n), .mu ((List.range n).map nD), .mu [], .no]) ?_ ?_
  · obtain ⟨e', l1, dd', l, f, s4, p4, hd, hp, hl, rfl⟩ := loop
    rw [List.length_range] at hl hd
    have hl0 : l = [] := List.length_eq_zero_iff.mp (by omega)
    subst hl0
    rw [List.append_nil] at hp
    refine ⟨dd', f, ?_, hp, hd⟩
    have b1 : (-100000 : Int) ≤ (n : Int) ∧ (n : Int) ≤ 100000 := by omega
    unfold G__law_shuffled runD F__law_shuffled startD
    simp [-Option.map_eq_some_iff, gLRg, b1, hr, rngD_n0, l1, resD]
  · intro pre t post ht e he
    have hpl : pre.length + 1 ≤ n := by
      have := congrArg List.length ht
      simp at this
      omega
    obtain ⟨dd', l, f, s4, p4, hd, hp, hl, rfl⟩ := he
    obtain ⟨dd2, r, e1, hr2, hd2⟩ := roll_ok (many := l.length) hd (by omega) (by omega) (by omega)
    have hfl : f.length ≤ n := by
      have := hp.length_eq
      simp at this
      omega
    have g : l[r]? = some l[r] := List.getElem?_eq_getElem hr2
    have ix := ixN_c hr2
    have c1 : f.length < 100000 := by omega
    have c2 : l.length ≤ 100000 := by omega
    refine ⟨_, ?_, dd2, l.eraseIdx r, f ++ [l[r]], .im (nD t), rfl, ?_, ?_, ?_, rfl⟩
    · simp [-Option.map_eq_some_iff, p4, e1, g, ix, c1, c2, erase_map]
    · rw [List.length_append, List.length_singleton, ← Nat.add_assoc]
      exact hd2
    · refine List.Perm.trans ?_ hp
      rw [List.append_assoc]
      refine List.Perm.append_left f ?_
      exact erase_perm hr2
    · rw [List.length_append, List.length_singleton, List.length_eraseIdx_of_lt hr2]
      omega
  · refine ⟨dd, List.range n, [], .no, rfl, h, List.Perm.refl _, by simp, rfl⟩
end N

set_option Elab.async false
set_option linter.all false
set_option maxRecDepth 100000
set_option maxHeartbeats 1000000
/-! M24: webs that are drawn. -/
namespace N
open PySem
abbrev NP := Nat × Nat
theorem eqP_any {x : NP} {l : List NP} : gIn true (pD x) (.list (l.map pD)) = some (.bool (!l.contains x)) := gInP_l
theorem gNe_N {i j : Nat} : gNe (nD i) (nD j) = some (.bool (!decide (i = j))) := by
  rw [gNeI]
  congr 3
  exact decide_eq_decide.mpr (by omega)
/-- a sorted list of different pairs makes a web -/
theorem web_sorted {n : Nat} {F : List NP} (nd : F.Nodup) (hF : ∀ p ∈ F, p.1 < p.2 ∧ p.2 < n) : ∃ A, Plx.Wb A ∧ gSortL (F.map pD) = some (.list ((Plx.ties n A).map pD)) := by
  obtain ⟨m, h1, h2, h3⟩ := gSortL_pairs F
  have hm : ∀ p ∈ m, p.1 < p.2 ∧ p.2 < n := fun p hp => hF p (h1.mem_iff.mp hp)
  have asc := Plx.ascP_of h2 (h1.nodup_iff.mpr nd)
  refine ⟨Plx.adj m, Plx.adj_wb fun p hp => (hm p hp).1, ?_⟩
  rw [h3, Plx.adj_ties asc hm]
theorem web_of_ok {n : Nat} {ps : List NP} (hp : ∀ p ∈ ps, p.1 < n ∧ p.2 < n) (hl : ps.length ≤ 10000) : ∃ A, Plx.Wb A ∧ G__law_web_of [nD n, .list (ps.map pD)] = some (.ok (wD n A)) := by
  have loop := forGo_ix (tg := tgT [3, 4]) (F := sSeq (sAsg (fTup (fCons (fCB gMin2 (fCons (fVar 3) (fCons (fVar 4) (fNil)))) (fCons (fCB gMax2 (fCons (fVar 3) (fCons (fVar 4) (fNil)))) (fNil)))) (tgN 5)) (sIf (fAnd (fB (fOp gNe (fVar 3) (fVar 4))) (fB (fOp (gIn true) (fVar 5) (fMu 2)))) (sDrop (fApp 2 (fVar 5))) (sNext))) (enc := pD)
    (fun pre e => ∃ (F : List NP) (s3 s4 s5 : Sl), isPlain (some s3) = true ∧ isPlain (some s4) = true ∧ isPlain (some s5) = true ∧ F.Nodup ∧ (∀ p ∈ F, p.1 < p.2 ∧ p.2 < n) ∧ F.length ≤ pre.length ∧ e = [.im (nD n), .im (.list (ps.map pD)), .mu (F.map pD), s3, s4, s5])
    (xs := ps) (pre := []) (e := [.im (nD n), .im (.list (ps.map pD)), .mu [], .no, .no, .no]) ?_ ?_
  · obtain ⟨e', l1, F, s3, s4, s5, p3, p4, p5, nd, hF, hlF, rfl⟩ := loop
    obtain ⟨A, w, hs⟩ := web_sorted nd hF
    refine ⟨A, w, ?_⟩
    have hl2 : ps.length ≤ 100000 := by omega
    unfold G__law_web_of runP F__law_web_of start0
    simp only [sSeq_e]
    simp [-Option.map_eq_some_iff, hl2, l1, hs]
  · intro pre t post ht e he
    obtain ⟨x, y⟩ := t
    obtain ⟨F, s3, s4, s5, p3, p4, p5, nd, hF, hlF, rfl⟩ := he
    obtain ⟨hx, hy⟩ := hp (x, y) (by rw [← ht]; simp)
    simp only at hx hy
    have hpl : pre.length + 1 ≤ ps.length := by
      have := congrArg List.length ht
      simp at this
      omega
    have hl3 : F.length < 100000 := by omega
    have hin := eqP_any (x := (min x y, max x y)) (l := F)
    have hne := gNe_N (i := x) (j := y)
    by_cases c : x = y
    · subst c
      refine ⟨_, ?_, F, .im (nD x), .im (nD x), .im (pD (min x x, max x x)), rfl, rfl, rfl, nd, hF, by simp; omega, rfl⟩
      simp only [decide_true, Bool.not_true] at hne
      simp [-Option.map_eq_some_iff, -gNeI, p3, p4, p5, hne]
    · by_cases c2 : (min x y, max x y) ∈ F
      · have c3 : F.contains (min x y, max x y) = true := by simpa using c2
        rw [c3] at hin
        refine ⟨_, ?_, F, .im (nD x), .im (nD y), .im (pD (min x y, max x y)), rfl, rfl, rfl, nd, hF, by simp; omega, rfl⟩
        simp only [c, decide_false, Bool.not_false] at hne
        simp [-Option.map_eq_some_iff, -gNeI, p3, p4, p5, hne, hin]
      · have c3 : F.contains (min x y, max x y) = false := by
          cases e : F.contains (min x y, max x y) with
          | false => rfl
          | true => exact absurd (by simpa using e) c2
        rw [c3] at hin
        refine ⟨_, ?_, F ++ [(min x y, max x y)], .im (nD x), .im (nD y), .im (pD (min x y, max x y)), rfl, rfl, rfl, ?_, ?_, by simp; omega, rfl⟩
        · simp only [c, decide_false, Bool.not_false] at hne
          simp [-Option.map_eq_some_iff, -gNeI, p3, p4, p5, hne, hin, hl3]
        · refine List.nodup_append.mpr ⟨nd, by simp, fun a ha b hb e => ?_⟩
          simp only [List.mem_singleton] at hb
          rw [e, hb] at ha
          exact c2 ha
        · intro p hp'
          rcases List.mem_append.mp hp' with h | h
          · exact hF p h
          · simp only [List.mem_singleton] at h
            subst h
            simp only
            omega
  · exact ⟨[], .no, .no, .no, rfl, rfl, rfl, by simp, by simp, by simp, rfl⟩
theorem rounds_ok {n : Nat} {ss : List Nat} (h1 : 1 ≤ n) (h2 : n ≤ 7) (hs : ss.length ≤ 10) : ∃ A, Plx.Wb A ∧ G__law_rounds [nD n, lN ss] = some (.ok (wD n A)) := by
  have hr : rgOk 0 (n : Int) = true := rgOk_nat0 (by omega)
  have loop := forGo_ix (tg := tgN 3) (F := sAsg (fOp gAdd (fVar 2) (fLc (fRg1 (fVar 0)) (tgN 4) (fYes) (fTup (fCons (fVar 4) (fCons (fOp gMod (fOp gAdd (fVar 4) (fVar 3)) (fVar 0)) (fNil)))) [4])) (tgN 2)) (enc := nD)
    (fun pre e => ∃ (ps : List NP) (s3 : Sl), isPlain (some s3) = true ∧ (∀ p ∈ ps, p.1 < n ∧ p.2 < n) ∧ ps.length ≤ n * pre.length ∧ e = [.im (nD n), .im (lN ss), .im (.list (ps.map pD)), s3, .no])
    (xs := ss) (pre := []) (e := [.im (nD n), .im (lN ss), .im (.list []), .no, .no]) ?_ ?_
  · obtain ⟨e', l1, ps, s3, p3, hp, hl, rfl⟩ := loop
    have hl2 : n * ss.length ≤ 70 := Nat.mul_le_mul h2 hs
    obtain ⟨A, w, hw⟩ := web_of_ok hp (by omega)
    refine ⟨A, w, ?_⟩
    have hs2 : ss.length ≤ 100000 := by omega
    unfold G__law_rounds runP F__law_rounds start0
    simp only [sSeq_e]
    simp [-Option.map_eq_some_iff, hs2, l1, hw]
  · intro pre t post ht e he
    obtain ⟨ps, s3, p3, hp, hl, rfl⟩ := he
    have hpl : pre.length + 1 ≤ ss.length := by
      have := congrArg List.length ht
      simp at this
      omega
    have inn : lcGo (tgN 4) (fYes) (fTup (fCons (fVar 4) (fCons (fOp gMod (fOp gAdd (fVar 4) (fVar 3)) (fVar 0)) (fNil)))) [4] ((List.range n).map nD) [.im (nD n), .im (lN ss), .im (.list (ps.map pD)), .im (nD t), .no]
        = some (((List.range n).map fun a => (a, (a + t) % n)).map pD, [.im (nD n), .im (lN ss), .im (.list (ps.map pD)), .im (nD t), .no]) := by
      rw [List.map_map]
      refine lcGo_map fun a ha => ?_
      have md := gMod_e (i := (a : Int) + (t : Int)) (j := (n : Int)) (by omega)
      unfold lcStep
      simp [-Option.map_eq_some_iff, md]
    have hlm : n * pre.length ≤ 70 := Nat.mul_le_mul h2 (show pre.length ≤ 10 by omega)
    have hl3 : ps.length + n ≤ 100000 := by omega
    refine ⟨_, ?_, ps ++ (List.range n).map fun a => (a, (a + t) % n), .im (nD t), rfl, ?_, ?_, rfl⟩
    · simp [-Option.map_eq_some_iff, p3, hr, rngD_n0, inn, gAdd, hl3]
    · intro p hp'
      rcases List.mem_append.mp hp' with h | h
      · exact hp p h
      · obtain ⟨a, ha, rfl⟩ := List.mem_map.mp h
        exact ⟨List.mem_range.mp ha, Nat.mod_lt _ (by omega)⟩
    · rw [List.length_append, List.length_map, List.length_range, List.length_append, List.length_singleton, Nat.mul_add]
      omega
  · exact ⟨[], .no, rfl, by simp, by simp, rfl⟩
end N

set_option Elab.async false
set_option linter.all false
set_option maxRecDepth 100000
set_option maxHeartbeats 1000000
/-! M25: webs that are drawn, 2. -/
namespace N
open PySem
theorem even_ok {k : Nat} {dd : List PyData} (h : Dc k dd) (hk : k ≤ 900000) : ∃ dd' n A, G__law_even dd [.int 7] = some (dd', wD n A) ∧ Plx.Wb A ∧ 1 ≤ n ∧ n ≤ 7 ∧ Dc (k + 10) dd' := by
  obtain ⟨d1, r, e1, hr, hd1⟩ := roll_ok (many := 4) h (by omega) (by omega) (by omega)
  have e1' : G__law_roll dd [.int 4] = some (d1, .int (r : Int)) := e1
  obtain ⟨n, hn⟩ : ∃ n, n = 4 + r := ⟨_, rfl⟩
  have hc : (4 : Int) + (r : Int) = (n : Int) := by omega
  obtain ⟨h2, hh⟩ : ∃ h, h = n / 2 := ⟨_, rfl⟩
  have hc2 : (n : Int) / 2 = (h2 : Int) := by omega
  have dv := gDiv_e (i := (n : Int)) (j := 2) (by decide) (by decide)
  rw [hc2] at dv
  have hr1 : rgOk 1 ((h2 : Int) + 1) = true := rgOk_small (by omega) (by omega) (by omega) (by omega)
  have sb : ((h2 : Int) + 1 - 1).toNat = h2 := by omega
  have sb1 : (h2 : Int) + 1 - 1 = (h2 : Int) := by omega
  obtain ⟨ys, e', l1, l2, d2, hd2, rfl⟩ := lcGo_st (tg := tgN 4) (ft := fB (fOp gEq (fCallD 0 G__law_roll (fCons (fC (.int 3)) (fNil))) (fC (.int 0)))) (fe := fVar 4) (vs := [4]) (enc := nD) (f := nD)
    (fun j e => ∃ dd', Dc (k + 1 + j) dd' ∧ e = [.mu dd', .im (.int 7), .im (nD n), .no, .no]) (xs := List.range' 1 h2) (j := 0) (e := [.mu d1, .im (.int 7), .im (nD n), .no, .no]) (fun x hx j' e a b he => by
      obtain ⟨dd', hd, rfl⟩ := he
      simp at b
      obtain ⟨d3, q, e3, hq, hd3⟩ := roll_ok (many := 3) hd (by omega) (by omega) (by omega)
      have e3' : G__law_roll dd' [.int 3] = some (d3, .int (q : Int)) := e3
      by_cases c : q = 0
      · subst c
        refine ⟨some (nD x), _, ?_, .inr rfl, d3, hd3, rfl⟩
        unfold lcStep
        simp [-Option.map_eq_some_iff, e3']
      · have c2 : ¬ (q : Int) = 0 := by omega
        refine ⟨none, _, ?_, .inl rfl, d3, hd3, rfl⟩
        unfold lcStep
        simp [-Option.map_eq_some_iff, e3', c2, c]) ⟨d1, hd1, rfl⟩
  have hyl : ys.length ≤ 3 := by
    have := l2.length_le
    simp at this
    omega
  obtain ⟨ss, hss⟩ : ∃ ss, ss = if ys = [] then [1] else ys := ⟨_, rfl⟩
  have hsl : ss.length ≤ 10 := by
    rw [hss]
    split
    · simp
    · omega
  obtain ⟨A, w, hw⟩ := rounds_ok (n := n) (ss := ss) (by omega) (by omega) hsl
  refine ⟨d2, n, A, ?_, w, by omega, by omega, hd2.mono (by simp; omega)⟩
  unfold G__law_even runD F__law_even startD
  simp only [sSeq_e]
  simp [-Option.map_eq_some_iff, e1', hc, dv, hr1, sb, sb1, rngD_l1, l1]
  by_cases c : ys = []
  · subst c
    rw [if_pos rfl] at hss
    subst hss
    have hw' : G__law_rounds [nD n, .list [.int 1]] = some (.ok (wD n A)) := hw
    simp [-Option.map_eq_some_iff, hw', resD]
  · rw [if_neg c] at hss
    subst hss
    have c2 : (0 : Int) < (ss.length : Int) := by
      have := List.length_pos_iff.mpr c
      omega
    have c3 := List.length_pos_iff.mpr c
    simp [-Option.map_eq_some_iff, c2, c3, hw, resD]
theorem aft_len {a n : Nat} : (Plx.aft a n).length ≤ n := by
  unfold Plx.aft
  rw [List.length_range']
  omega
theorem mixed_ok {k : Nat} {dd : List PyData} (h : Dc k dd) (hk : k ≤ 900000) : ∃ dd' n A, G__law_mixed dd [.int 7] = some (dd', wD n A) ∧ Plx.Wb A ∧ 1 ≤ n ∧ n ≤ 7 ∧ Dc (k + 60) dd' := by
  obtain ⟨d1, r, e1, hr, hd1⟩ := roll_ok (many := 7) h (by omega) (by omega) (by omega)
  have e1' : G__law_roll dd [.int 7] = some (d1, .int (r : Int)) := e1
  obtain ⟨n, hn⟩ : ∃ n, n = 1 + r := ⟨_, rfl⟩
  have hc : (1 : Int) + (r : Int) = (n : Int) := by omega
  obtain ⟨d2, s, e2, hs, hd2⟩ := roll_ok (many := 3) hd1 (by omega) (by omega) (by omega)
  have e2' : G__law_roll d1 [.int 3] = some (d2, .int (s : Int)) := e2
  obtain ⟨m, hm⟩ : ∃ m, m = 2 + s := ⟨_, rfl⟩
  have hc2 : (2 : Int) + (s : Int) = (m : Int) := by omega
  have hrg : rgOk 0 (n : Int) = true := rgOk_nat0 (by omega)
  have loop := forGo_ix (tg := tgN 5) (F := sAsg (fOp gAdd (fVar 4) (fLc (fRg2 (fCons (fOp gAdd (fVar 5) (fC (.int 1))) (fCons (fVar 2) (fNil)))) (tgN 6) (fB (fOp gEq (fCallD 0 G__law_roll (fCons (fVar 3) (fNil))) (fC (.int 0)))) (fTup (fCons (fVar 5) (fCons (fVar 6) (fNil)))) [6])) (tgN 4)) (enc := nD)
    (fun pre e => ∃ (dd' : List PyData) (ps : List NP) (s5 : Sl), isPlain (some s5) = true ∧ Dc (k + 2 + 7 * pre.length) dd' ∧ (∀ p ∈ ps, p.1 < n ∧ p.2 < n) ∧ ps.length ≤ 7 * pre.length ∧ e = [.mu dd', .im (.int 7), .im (nD n), .im (nD m), .im (.list (ps.map pD)), s5, .no])
    (xs := List.range n) (pre := []) (e := [.mu d2, .im (.int 7), .im (nD n), .im (nD m), .im (.list []), .no, .no]) ?_ ?_
  · obtain ⟨e', l1, dd', ps, s5, p5, hd, hp, hl, rfl⟩ := loop
    rw [List.length_range] at hd hl
    obtain ⟨A, w, hw⟩ := web_of_ok hp (by omega)
    refine ⟨dd', n, A, ?_, w, by omega, by omega, hd.mono (by omega)⟩
    unfold G__law_mixed runD F__law_mixed startD
    simp only [sSeq_e]
    simp [-Option.map_eq_some_iff, e1', e2', hc, hc2, hrg, rngD_n0, l1, hw, resD]
  · intro pre a post ht e he
    have hpl : pre.length + 1 ≤ n := by
      have := congrArg List.length ht
      simp at this
      omega
    have han : a < n := List.mem_range.mp (by rw [← ht]; simp)
    obtain ⟨dd', ps, s5, p5, hd, hp, hl, rfl⟩ := he
    have hr1 : rgOk ((a : Int) + 1) (n : Int) = true := rgOk_nat1 (by omega) (by omega)
    obtain ⟨ys, e', l1, l2, d3, hd3, rfl⟩ := lcGo_st (tg := tgN 6) (ft := fB (fOp gEq (fCallD 0 G__law_roll (fCons (fVar 3) (fNil))) (fC (.int 0)))) (fe := fTup (fCons (fVar 5) (fCons (fVar 6) (fNil)))) (vs := [6]) (enc := nD) (f := fun b => pD (a, b))
      (fun j e => ∃ dd', Dc (k + 2 + 7 * pre.length + j) dd' ∧ e = [.mu dd', .im (.int 7), .im (nD n), .im (nD m), .im (.list (ps.map pD)), .im (nD a), .no]) (xs := Plx.aft a n) (j := 0) (e := [.mu dd', .im (.int 7), .im (nD n), .im (nD m), .im (.list (ps.map pD)), .im (nD a), .no]) (fun x hx j' e qa qb he => by
        obtain ⟨dd', hd, rfl⟩ := he
        have al := aft_len (a := a) (n := n)
        obtain ⟨d3, q, e3, hq, hd3⟩ := roll_ok (many := m) hd (by omega) (by omega) (by omega)
        by_cases c : q = 0
        · subst c
          refine ⟨some (pD (a, x)), _, ?_, .inr rfl, d3, hd3, rfl⟩
          unfold lcStep
          simp [-Option.map_eq_some_iff, e3]
        · have c2 : ¬ (q : Int) = 0 := by omega
          refine ⟨none, _, ?_, .inl rfl, d3, hd3, rfl⟩
          unfold lcStep
          simp [-Option.map_eq_some_iff, e3, c2, c]) ⟨dd', hd, rfl⟩
    have al := aft_len (a := a) (n := n)
    have yl := l2.length_le
    have hl3 : ps.length + ys.length ≤ 100000 := by omega
    refine ⟨_, ?_, d3, ps ++ ys.map fun b => (a, b), .im (nD a), rfl, hd3.mono ?_, ?_, ?_, rfl⟩
    · simp [-Option.map_eq_some_iff, p5, hr1, rngD_aft, l1, gAdd, hl3]
    · rw [List.length_append, List.length_singleton]
      omega
    · intro p hp'
      rcases List.mem_append.mp hp' with h | h
      · exact hp p h
      · obtain ⟨b, hb, rfl⟩ := List.mem_map.mp h
        have := Plx.mem_aft.mp (l2.subset hb)
        exact ⟨han, this.2⟩
    · rw [List.length_append, List.length_map, List.length_append, List.length_singleton]
      omega
  · exact ⟨d2, [], .no, rfl, hd2.mono (by omega), by simp, by simp, rfl⟩
theorem some_web_ok {k : Nat} {dd : List PyData} (h : Dc k dd) (hk : k ≤ 800000) : ∃ dd' n A, G__law_some_web dd [.int 7] = some (dd', wD n A) ∧ Plx.Wb A ∧ 1 ≤ n ∧ n ≤ 7 ∧ Dc (k + 100) dd' := by
  obtain ⟨d1, r, e1, hr, hd1⟩ := roll_ok (many := 3) h (by omega) (by omega) (by omega)
  have e1' : G__law_roll dd [.int 3] = some (d1, .int (r : Int)) := e1
  by_cases c : 0 < r
  · obtain ⟨d2, n, A, e2, w, n1, n2, hd2⟩ := mixed_ok hd1 (by omega)
    have c2 : (0 : Int) < (r : Int) := by omega
    refine ⟨d2, n, A, ?_, w, n1, n2, hd2.mono (by omega)⟩
    unfold G__law_some_web runD F__law_some_web startD
    simp [-Option.map_eq_some_iff, e1', c, c2, e2, resD]
  · obtain ⟨d2, n, A, e2, w, n1, n2, hd2⟩ := even_ok hd1 (by omega)
    have c2 : ¬ (0 : Int) < (r : Int) := by omega
    refine ⟨d2, n, A, ?_, w, n1, n2, hd2.mono (by omega)⟩
    unfold G__law_some_web runD F__law_some_web startD
    simp [-Option.map_eq_some_iff, e1', c, c2, e2, resD]
theorem bad_web_ok {k : Nat} {dd : List PyData} (h : Dc k dd) (hk : k ≤ 900000) : ∃ dd' d, G__law_bad_web dd [] = some (dd', d) ∧ d ∈ badWebs ∧ Dc (k + 1) dd' := by
  obtain ⟨d1, d, e1, hm, hd1⟩ := pick_ok (ds := badWebs) h (by omega) (by decide) (by decide)
  refine ⟨d1, d, ?_, hm, hd1⟩
  unfold badWebs at e1
  unfold G__law_bad_web runD F__law_bad_web startD
  simp [-Option.map_eq_some_iff, e1, resD]
end N

set_option Elab.async false
set_option linter.all false
set_option maxRecDepth 100000
set_option maxHeartbeats 1000000
/-! M26: webs with other names; made webs. -/
namespace N
open PySem
theorem cutD_to {ds : List PyData} {m : Nat} : cutD ds none (some (m : Int)) = ds.take m := by
  unfold cutD
  rw [HT.sIx_none, HT.sIx_nat, List.drop_zero, Nat.sub_zero]
  by_cases h : m ≤ ds.length
  · rw [Nat.min_eq_left h]
  · rw [Nat.min_eq_right (by omega), List.take_of_length_le (Nat.le_refl _), List.take_of_length_le (by omega)]
theorem min_pair {a b : Nat} : minOf [nD a, nD b] = some (nD (min a b)) := by
  unfold minOf
  simp
  omega
theorem max_pair {a b : Nat} : maxOf [nD a, nD b] = some (nD (max a b)) := by
  unfold maxOf
  simp
  omega
theorem renamed_ok {n : Nat} {A : Nat → Nat → Bool} {row : List Nat} (h2 : n ≤ 26) (w : Plx.Wb A) (hp : row.Perm (List.range n)) : ∃ B, Plx.Wb B ∧ G__law_renamed [wD n A, tN row] = some (.ok (wD n B)) := by
  have hlr : row.length = n := by rw [hp.length_eq, List.length_range]
  have ndr : row.Nodup := hp.nodup_iff.mpr List.nodup_range
  have htl := Plx.ties_len (A := A) h2
  have htl2 : (Plx.ties n A).length ≤ 100000 := by omega
  -- the new name of a place
  obtain ⟨g, hg⟩ : ∃ g : Nat → Nat, g = fun x => row.getD x 0 := ⟨_, rfl⟩
  have gx : ∀ x, x < n → row[x]? = some (g x) := fun x hx => by
    rw [hg]
    have : x < row.length := by omega
    simp [this, List.getD_eq_getElem?_getD]
  have glt : ∀ x, x < n → g x < n := fun x hx => by
    have := hp.mem_iff.mp (List.mem_of_getElem? (gx x hx))
    exact List.mem_range.mp this
  have ginj : ∀ x y, x < n → y < n → g x = g y → x = y := fun x y hx hy e => by
    have e1 := gx x hx
    have e2 := gx y hy
    rw [← e] at e2
    have q1 : x < row.length := by omega
    have q2 : y < row.length := by omega
    rw [List.getElem?_eq_getElem q1] at e1
    rw [List.getElem?_eq_getElem q2] at e2
    have e3 : row[x] = row[y] := by
      have := e1.trans e2.symm
      simpa using this
    exact (List.getElem_inj ndr).mp e3
  obtain ⟨F, hF⟩ : ∃ F : List NP, F = (Plx.ties n A).map fun t => (min (g t.1) (g t.2), max (g t.1) (g t.2)) := ⟨_, rfl⟩
  have ndF : F.Nodup := by
    rw [hF, List.nodup_iff_pairwise_ne, List.pairwise_map]
    refine (Plx.ascP_nodup Plx.asc_ties).imp_of_mem fun {p q} hp hq ne e => ne ?_
    obtain ⟨⟨p1, p2⟩, _⟩ := Plx.mem_ties.mp hp
    obtain ⟨⟨q1, q2⟩, _⟩ := Plx.mem_ties.mp hq
    have e1 : min (g p.1) (g p.2) = min (g q.1) (g q.2) := congrArg Prod.fst e
    have e2 : max (g p.1) (g p.2) = max (g q.1) (g q.2) := congrArg Prod.snd e
    have c : (g p.1 = g q.1 ∧ g p.2 = g q.2) ∨ (g p.1 = g q.2 ∧ g p.2 = g q.1) := by omega
    rcases c with ⟨c1, c2⟩ | ⟨c1, c2⟩
    · exact Prod.ext (ginj _ _ (by omega) (by omega) c1) (ginj _ _ (by omega) (by omega) c2)
    · have := ginj _ _ (by omega) (by omega) c1
      have := ginj _ _ (by omega) (by omega) c2
      omega
  have hFm : ∀ p ∈ F, p.1 < p.2 ∧ p.2 < n := fun p hp' => by
    rw [hF] at hp'
    obtain ⟨t, ht, rfl⟩ := List.mem_map.mp hp'
    obtain ⟨⟨t1, t2⟩, _⟩ := Plx.mem_ties.mp ht
    have a1 := glt t.1 (by omega)
    have a2 := glt t.2 (by omega)
    have a3 : g t.1 ≠ g t.2 := fun e => by
      have := ginj _ _ (by omega) (by omega) e
      omega
    simp only
    omega
  obtain ⟨B, wB, hB⟩ := web_sorted ndF hFm
  refine ⟨B, wB, ?_⟩
  have one : lcGo (tgT [3, 4]) (fYes) (fTup (fCons (fOp gIx (fVar 1) (fVar 3)) (fCons (fOp gIx (fVar 1) (fVar 4)) (fNil)))) [3, 4] ((Plx.ties n A).map pD) [.im (wD n A), .im (tN row), .no, .no, .no, .no]
      = some ((Plx.ties n A).map (fun t => pD (g t.1, g t.2)), [.im (wD n A), .im (tN row), .no, .no, .no, .no]) := by
    refine lcGo_map fun t ht => ?_
    obtain ⟨⟨t1, t2⟩, _⟩ := Plx.mem_ties.mp ht
    have g1 := gx t.1 (by omega)
    have g2 := gx t.2 (by omega)
    unfold lcStep
    simp [-Option.map_eq_some_iff, g1, g2]
  have two : lcGo (tgN 5) (fYes) (fTup (fCons (fUn gMin (fVar 5)) (fCons (fUn gMax (fVar 5)) (fNil)))) [5] ((Plx.ties n A).map fun t => pD (g t.1, g t.2)) [.im (wD n A), .im (tN row), .im (.list ((Plx.ties n A).map fun t => pD (g t.1, g t.2))), .no, .no, .no]
      = some (F.map pD, [.im (wD n A), .im (tN row), .im (.list ((Plx.ties n A).map fun t => pD (g t.1, g t.2))), .no, .no, .no]) := by
    rw [hF, List.map_map]
    refine lcGo_map (enc := fun t : NP => pD (g t.1, g t.2)) fun t ht => ?_
    have m1 := min_pair (a := g t.1) (b := g t.2)
    have m2 := max_pair (a := g t.1) (b := g t.2)
    unfold lcStep
    simp [-Option.map_eq_some_iff, m1, m2]
  unfold G__law_renamed runP F__law_renamed start0
  simp only [sSeq_e]
  simp [-Option.map_eq_some_iff, htl2, one]
  simp [-Option.map_eq_some_iff, htl2, two, hB]
/-- the first places of a drawn order, sorted -/
theorem sort_part {n m : Nat} {row : List Nat} (hp : row.Perm (List.range n)) : ∃ P : List Nat, Plx.Asc P ∧ (∀ x ∈ P, x < n) ∧ P.length = min m n ∧ gSortL ((row.take m).map nD) = some (.list (P.map nD)) := by
  have ndr : row.Nodup := hp.nodup_iff.mpr List.nodup_range
  obtain ⟨P, h1, h2, h3⟩ := gSortL_ints (row.take m)
  have nd : P.Nodup := h1.nodup_iff.mpr (ndr.sublist (List.take_sublist _ _))
  refine ⟨P, Plx.asc_of h2 nd, fun x hx => ?_, ?_, h3⟩
  · have z := hp.mem_iff.mp (List.mem_of_mem_take (h1.mem_iff.mp hx))
    exact List.mem_range.mp z
  · rw [h1.length_eq, List.length_take, hp.length_eq, List.length_range]
end N

set_option Elab.async false
set_option linter.all false
set_option maxRecDepth 100000
set_option maxHeartbeats 1000000
/-! M27: made webs. -/
namespace N
open PySem
def four : List (List NP) := [[], [(0, 1), (2, 3)], [(0, 1), (1, 2), (2, 3), (0, 3)], [(0, 1), (0, 2), (0, 3), (1, 2), (1, 3), (2, 3)]]
def eight : List (List Nat) := [[], [0, 1], [0, 2], [0, 3], [1, 2], [1, 3], [2, 3], [0, 1, 2, 3]]
theorem four_ok : ∀ l ∈ four, (∀ p ∈ l, p.1 < 4 ∧ p.2 < 4) ∧ l.length ≤ 6 := by decide
theorem eight_ok : ∀ l ∈ eight, (∀ x ∈ l, x < 4) ∧ l.length ≤ 4 := by decide
theorem pick4 {k : Nat} {dd : List PyData} (h : Dc k dd) (hk : k ≤ 1000000) : ∃ (dd' : List PyData) (l : List NP), G__law_pick dd [.list [.list [], .list [.tuple [.int 0, .int 1], .tuple [.int 2, .int 3]], .list [.tuple [.int 0, .int 1], .tuple [.int 1, .int 2], .tuple [.int 2, .int 3], .tuple [.int 0, .int 3]], .list [.tuple [.int 0, .int 1], .tuple [.int 0, .int 2], .tuple [.int 0, .int 3], .tuple [.int 1, .int 2], .tuple [.int 1, .int 3], .tuple [.int 2, .int 3]]]] = some (dd', .list (l.map pD)) ∧ (∀ p ∈ l, p.1 < 4 ∧ p.2 < 4) ∧ l.length ≤ 6 ∧ Dc (k + 1) dd' := by
  obtain ⟨d1, d, e1, hm, hd1⟩ := pick_ok (ds := four.map fun l => .list (l.map pD)) h hk (by decide) (by decide)
  obtain ⟨l, hl, rfl⟩ := List.mem_map.mp hm
  obtain ⟨a, b⟩ := four_ok l hl
  exact ⟨d1, l, e1, a, b, hd1⟩
theorem pick8 {k : Nat} {dd : List PyData} (h : Dc k dd) (hk : k ≤ 1000000) : ∃ (dd' : List PyData) (l : List Nat), G__law_pick dd [.list [.list [], .list [.int 0, .int 1], .list [.int 0, .int 2], .list [.int 0, .int 3], .list [.int 1, .int 2], .list [.int 1, .int 3], .list [.int 2, .int 3], .list [.int 0, .int 1, .int 2, .int 3]]] = some (dd', lN l) ∧ (∀ x ∈ l, x < 4) ∧ l.length ≤ 4 ∧ Dc (k + 1) dd' := by
  obtain ⟨d1, d, e1, hm, hd1⟩ := pick_ok (ds := eight.map fun l => lN l) h hk (by decide) (by decide)
  obtain ⟨l, hl, rfl⟩ := List.mem_map.mp hm
  obtain ⟨a, b⟩ := eight_ok l hl
  exact ⟨d1, l, e1, a, b, hd1⟩
theorem made_ok {k : Nat} {dd : List PyData} (h : Dc k dd) (hk : k ≤ 800000) : ∃ dd' n A P, G__law_made dd [] = some (dd', .tuple [wD n A, tN P]) ∧ Plx.Wb A ∧ 1 ≤ n ∧ n ≤ 7 ∧ Plx.Asc P ∧ (∀ x ∈ P, x < n) ∧ P.length = 4 ∧ Dc (k + 100) dd' := by
  obtain ⟨d1, r, e1, hr, hd1⟩ := roll_ok (many := 2) h (by omega) (by omega) (by omega)
  have e1' : G__law_roll dd [.int 2] = some (d1, .int (r : Int)) := e1
  obtain ⟨n, hn⟩ : ∃ n, n = 6 + r := ⟨_, rfl⟩
  have hc : (6 : Int) + (r : Int) = (n : Int) := by omega
  obtain ⟨d2, ps0, e2, hp0, hl0, hd2⟩ := pick4 hd1 (by omega)
  have hrg : rgOk 4 (n : Int) = true := rgOk_small (by omega) (by omega) (by omega) (by omega)
  have rg4 : ∀ m : Nat, rngD 4 m = (List.range' 4 m).map nD := fun m => rngD_c 4 m
  obtain ⟨n4, hn4⟩ : ∃ m, m = n - 4 := ⟨_, rfl⟩
  have sb : ((n : Int) - 4).toNat = n4 := by omega
  have loop := forGo_ix (tg := tgN 3) (F := sSeq (sAsg (fCallD 0 G__law_pick (fCons (fLst (fCons (fLst (fNil)) (fCons (fLst (fCons (fC (.int 0)) (fCons (fC (.int 1)) (fNil)))) (fCons (fLst (fCons (fC (.int 0)) (fCons (fC (.int 2)) (fNil)))) (fCons (fLst (fCons (fC (.int 0)) (fCons (fC (.int 3)) (fNil)))) (fCons (fLst (fCons (fC (.int 1)) (fCons (fC (.int 2)) (fNil)))) (fCons (fLst (fCons (fC (.int 1)) (fCons (fC (.int 3)) (fNil)))) (fCons (fLst (fCons (fC (.int 2)) (fCons (fC (.int 3)) (fNil)))) (fCons (fLst (fCons (fC (.int 0)) (fCons (fC (.int 1)) (fCons (fC (.int 2)) (fCons (fC (.int 3)) (fNil)))))) (fNil)))))))))) (fNil))) (tgN 4)) (sAsg (fOp gAdd (fOp gAdd (fVar 2) (fLc (fSeq (fVar 4)) (tgN 7) (fYes) (fTup (fCons (fVar 7) (fCons (fVar 3) (fNil)))) [7])) (fLc (fRg2 (fCons (fC (.int 4)) (fCons (fVar 3) (fNil)))) (tgN 6) (fB (fOp gEq (fCallD 0 G__law_roll (fCons (fC (.int 2)) (fNil))) (fC (.int 0)))) (fTup (fCons (fVar 6) (fCons (fVar 3) (fNil)))) [6])) (tgN 2))) (enc := nD)
    (fun pre e => ∃ (dd' : List PyData) (ps : List NP) (s3 s4 : Sl), isPlain (some s3) = true ∧ isPlain (some s4) = true ∧ Dc (k + 2 + 10 * pre.length) dd' ∧ (∀ p ∈ ps, p.1 < n ∧ p.2 < n) ∧ ps.length ≤ 6 + 20 * pre.length ∧ e = [.mu dd', .im (nD n), .im (.list (ps.map pD)), s3, s4, .no, .no, .no])
    (xs := List.range' 4 n4) (pre := []) (e := [.mu d2, .im (nD n), .im (.list (ps0.map pD)), .no, .no, .no, .no, .no]) ?_ ?_
  · obtain ⟨e', l1, d3, ps, s3, s4, p3, p4, hd3, hp, hl, rfl⟩ := loop
    rw [List.length_range'] at hd3 hl
    obtain ⟨A, w, hw⟩ := web_of_ok hp (by omega)
    obtain ⟨d4, row, e4, hrow, hd4⟩ := shuf_ok (n := n) hd3 (by omega) (by omega)
    obtain ⟨B, wB, hB⟩ := renamed_ok (n := n) (A := A) (by omega) w hrow
    obtain ⟨P, P1, P2, P3, P4⟩ := sort_part (m := 4) hrow
    have ct := cutD_to (ds := row.map nD) (m := 4)
    have ct' : cutD (row.map nD) none (some 4) = (row.map nD).take 4 := ct
    rw [List.map_take] at P4
    refine ⟨d4, n, B, P, ?_, wB, by omega, by omega, P1, P2, by omega, hd4.mono (by omega)⟩
    unfold G__law_made runD F__law_made startD
    simp only [sSeq_e]
    simp [-Option.map_eq_some_iff, e1', e2, hc, hrg, sb, rg4, l1, e4, hw, hB, gSl, ct', P4, resD]
  · intro pre a post ht e he
    have hpl : pre.length + 1 ≤ n4 := by
      have := congrArg List.length ht
      simp at this
      omega
    have han : 4 ≤ a ∧ a < n := by
      have z : a ∈ List.range' 4 n4 := by rw [← ht]; simp
      rw [List.mem_range'] at z
      obtain ⟨i, hi, rfl⟩ := z
      omega
    obtain ⟨dd', ps, s3, s4, p3, p4, hd, hp, hl, rfl⟩ := he
    obtain ⟨d3, ns, e3, hns, hnl, hd3⟩ := pick8 hd (by omega)
    have hra : rgOk 4 (a : Int) = true := rgOk_small (by omega) (by omega) (by omega) (by omega)
    obtain ⟨a4, ha4⟩ : ∃ m, m = a - 4 := ⟨_, rfl⟩
    have sba : ((a : Int) - 4).toNat = a4 := by omega
    have hnl2 : ns.length ≤ 100000 := by omega
    have inn : ∀ dd' : List PyData, lcGo (tgN 7) (fYes) (fTup (fCons (fVar 7) (fCons (fVar 3) (fNil)))) [7] (ns.map nD) [.mu dd', .im (nD n), .im (.list (ps.map pD)), .im (nD a), .im (lN ns), .no, .no, .no]
        = some ((ns.map fun b => (b, a)).map pD, [.mu dd', .im (nD n), .im (.list (ps.map pD)), .im (nD a), .im (lN ns), .no, .no, .no]) := fun dd' => by
      rw [List.map_map]
      refine lcGo_map fun b _ => ?_
      unfold lcStep
      simp
    obtain ⟨ys, e', l1, l2, d5, hd5, rfl⟩ := lcGo_st (tg := tgN 6) (ft := fB (fOp gEq (fCallD 0 G__law_roll (fCons (fC (.int 2)) (fNil))) (fC (.int 0)))) (fe := fTup (fCons (fVar 6) (fCons (fVar 3) (fNil)))) (vs := [6]) (enc := nD) (f := fun b => pD (b, a))
      (fun j e => ∃ dd', Dc (k + 2 + 10 * pre.length + 1 + j) dd' ∧ e = [.mu dd', .im (nD n), .im (.list (ps.map pD)), .im (nD a), .im (lN ns), .no, .no, .no]) (xs := List.range' 4 a4) (j := 0) (e := [.mu d3, .im (nD n), .im (.list (ps.map pD)), .im (nD a), .im (lN ns), .no, .no, .no]) (fun x hx j' e qa qb he => by
        obtain ⟨dd', hd, rfl⟩ := he
        simp at qb
        obtain ⟨d6, q, e6, hq, hd6⟩ := roll_ok (many := 2) hd (by omega) (by omega) (by omega)
        have e6' : G__law_roll dd' [.int 2] = some (d6, .int (q : Int)) := e6
        by_cases c : q = 0
        · subst c
          refine ⟨some (pD (x, a)), _, ?_, .inr rfl, d6, hd6, rfl⟩
          unfold lcStep
          simp [-Option.map_eq_some_iff, e6']
        · have c2 : ¬ (q : Int) = 0 := by omega
          refine ⟨none, _, ?_, .inl rfl, d6, hd6, rfl⟩
          unfold lcStep
          simp [-Option.map_eq_some_iff, e6', c2, c]) ⟨d3, hd3, rfl⟩
    have yl := l2.length_le
    rw [List.length_range'] at yl hd5
    have hl3 : ps.length + ns.length ≤ 100000 := by omega
    have hl4 : ps.length + ns.length + ys.length ≤ 100000 := by omega
    have hl5 : ps.length + (ns.length + ys.length) ≤ 100000 := by omega
    refine ⟨_, ?_, d5, ps ++ ((ns.map fun b => (b, a)) ++ ys.map fun b => (b, a)), .im (nD a), .im (lN ns), rfl, rfl, hd5.mono ?_, ?_, ?_, rfl⟩
    · have l1' : ∀ M : List PyData, True := fun _ => trivial
      simp [-Option.map_eq_some_iff, p3, p4, e3, hnl2, inn, hra, sba, rg4, l1, gAdd, hl3, hl4, hl5]
    · rw [List.length_append, List.length_singleton]
      omega
    · intro p hp'
      rcases List.mem_append.mp hp' with h | h
      · exact hp p h
      · rcases List.mem_append.mp h with h | h
        · obtain ⟨b, hb, rfl⟩ := List.mem_map.mp h
          have := hns b hb
          exact ⟨by simp only; omega, han.2⟩
        · obtain ⟨b, hb, rfl⟩ := List.mem_map.mp h
          have z := l2.subset hb
          rw [List.mem_range'] at z
          obtain ⟨i, hi, rfl⟩ := z
          exact ⟨by simp only; omega, han.2⟩
    · rw [List.length_append, List.length_append, List.length_map, List.length_map, List.length_append, List.length_singleton]
      omega
  · exact ⟨d2, ps0, .no, .no, rfl, rfl, hd2.mono (by omega), fun p hp => ⟨by have := (hp0 p hp).1; omega, by have := (hp0 p hp).2; omega⟩, by simp; omega, rfl⟩
end N

set_option Elab.async false
set_option linter.all false
set_option maxRecDepth 100000
set_option maxHeartbeats 1000000
/-! M28: switched webs have the same walks and polynomial; the rings of five. -/
namespace N
open PySem
section
variable {n : Nat} {A : Nat → Nat → Bool} {P : Nat → Bool}
theorem tw_pw {q a b : Plx.Mx} (h : Plx.Tw n q a b) : ∀ k, Plx.Tw n q (pw n a k) (pw n b k)
  | 0 => Plx.Tw.one
  | k + 1 => (tw_pw h k).mul h
theorem walks_eq (s : Plx.Sw n A P) (k : Nat) : Plx.tr n (pw n (Plx.mx (Plx.sw n A P)) k) = Plx.tr n (pw n (Plx.mx A) k) := by
  have hc : (Plx.cnt n P : Int) * (Plx.cnt n P : Int) ≠ 0 := by
    have p := s.pos
    exact Int.mul_ne_zero (by omega) (by omega)
  exact ((tw_pw (Plx.tw_sw s) k).tr hc fun i j hi hj => Plx.qm_qm hi hj).symm
theorem tw_po {q a b : Plx.Mx} {c : Int} (hc : c ≠ 0) (hq : ∀ i j, i < n → j < n → Plx.mul n q q i j = if i = j then c else 0) (h : Plx.Tw n q a b) : ∀ k, Plx.Tw n q (poH n a k) (poH n b k)
  | 0 => Plx.Tw.one
  | k + 1 => by
    have ih := tw_po hc hq h k
    have m := h.mul ih
    have t := m.tr hc hq
    show Plx.Tw n q (nextH n a (poH n a k) k) (nextH n b (poH n b k) k)
    unfold nextH
    rw [t]
    exact m.add
theorem poly_eq (s : Plx.Sw n A P) : poL n (Plx.mx (Plx.sw n A P)) n = poL n (Plx.mx A) n := by
  have hc : (Plx.cnt n P : Int) * (Plx.cnt n P : Int) ≠ 0 := by
    have p := s.pos
    exact Int.mul_ne_zero (by omega) (by omega)
  have hq : ∀ i j, i < n → j < n → Plx.mul n (Plx.qm n P) (Plx.qm n P) i j = if i = j then (Plx.cnt n P : Int) * (Plx.cnt n P : Int) else 0 := fun i j hi hj => Plx.qm_qm hi hj
  unfold poL
  congr 1
  refine List.map_congr_left fun k _ => ?_
  unfold poN
  rw [((Plx.tw_sw s).mul (tw_po hc hq (Plx.tw_sw s) k)).tr hc hq]
end
theorem swB_sw2 {n : Nat} {A : Nat → Nat → Bool} {P : List Nat} (w : Plx.Wb A) (ha : Plx.Asc P) (hb : ∀ x ∈ P, x < n) (hne : P ≠ []) (h : swB n A P = true) : swB n (Plx.sw n A fun k => P.contains k) P = true := by
  have s := swB_sw w ha hb hne h
  have e : ∀ a, a < n → dinL n (Plx.sw n A fun k => P.contains k) P a = dinL n A P a := fun a ha => by
    rw [dinL_eq, dinL_eq]
    exact Plx.din_sw s ha
  unfold swB halfB at h ⊢
  rw [← h]
  congr 1
  · rw [Bool.eq_iff_iff]
    simp only [List.all_eq_true, decide_eq_true_eq]
    constructor
    · intro z x hx y hy
      rw [← e x (hb x hx), ← e y (hb y hy)]
      exact z x hx y hy
    · intro z x hx y hy
      rw [e x (hb x hx), e y (hb y hy)]
      exact z x hx y hy
  · rw [Bool.eq_iff_iff]
    simp only [List.all_eq_true]
    constructor
    · intro z a ha
      have := z a ha
      rw [e a (List.mem_range.mp ha)] at this
      exact this
    · intro z a ha
      rw [e a (List.mem_range.mp ha)]
      exact z a ha
@[simp] theorem sWeb_e {F : FE} {en : En} : sWeb F en = (F en).bind fun p => match p.1 with
  | .list ds => (keysOf ds).bind fun ks => (fVar 0 p.2).bind fun q => if (isPlain p.2[2]? && sortB ((onceK ks).map L2.keyD)) = true ∧ (onceK ks).length ≤ 100000 then some (.rt (.tuple [q.1, .tuple (((onceK ks).map L2.keyD).mergeSort (PySem.W.dataLe false id))]) (p.2.set 2 .no)) else none
  | _ => none := rfl
def r5 : List NP := [(0, 1), (1, 2), (2, 3), (3, 4), (0, 4)]
def k5 : List (List L2.Key) := [[Sum.inl 0, Sum.inl 1], [Sum.inl 1, Sum.inl 2], [Sum.inl 2, Sum.inl 3], [Sum.inl 3, Sum.inl 4], [Sum.inl 0, Sum.inl 4]]
theorem ring5_ex : ∃ A, Plx.Wb A ∧ G_ring_web [.int 5] = some (.ok (wD 5 A)) := by
  obtain ⟨A, w, h⟩ := web_sorted (n := 5) (F := r5) (by decide) (by decide)
  refine ⟨A, w, ?_⟩
  have hn := need_integer_ok (i := 5) (a := 3) (b := 26) (nm := "many") (by decide) (by decide)
  have ho : onceK k5 = k5 := by decide
  have hk : k5.map L2.keyD = r5.map pD := rfl
  have hs : gSortL (r5.map pD) = some (.list ((r5.map pD).mergeSort (PySem.W.dataLe false id))) := by
    unfold gSortL
    rw [if_pos sortB_pairs]
  rw [hs] at h
  simp only [Option.some.injEq, PyData.list.injEq] at h
  have hsb : sortB (r5.map pD) = true := sortB_pairs
  have rg : rngD 0 5 = [.int 0, .int 1, .int 2, .int 3, .int 4] := rfl
  have hr : rgOk 0 5 = true := by decide
  have hw : G_web_of [.int 5, .list [.tuple [.int 0, .int 1], .tuple [.int 1, .int 2], .tuple [.int 2, .int 3], .tuple [.int 3, .int 4], .tuple [.int 4, .int 0]]] = some (.ok (wD 5 A)) := by
    have hlc : fLc (fSeq (fVar 1)) (tgN 3) (fYes) (fTup (fCons (fTup (fCons (fUn gMin (fVar 3)) (fCons (fUn gMax (fVar 3)) (fNil)))) (fCons (fC (.bool true)) (fNil)))) [3] [.im (.int 5), .im (.list [.tuple [.int 0, .int 1], .tuple [.int 1, .int 2], .tuple [.int 2, .int 3], .tuple [.int 3, .int 4], .tuple [.int 4, .int 0]]), .no, .no]
        = some (.list (r5.map fun p => .tuple [pD p, .bool true]), [.im (.int 5), .im (.list [.tuple [.int 0, .int 1], .tuple [.int 1, .int 2], .tuple [.int 2, .int 3], .tuple [.int 3, .int 4], .tuple [.int 4, .int 0]]), .no, .no]) := by
      simp [minOf, maxOf, r5]
      decide
    have hks : keysOf (r5.map fun p => .tuple [pD p, .bool true]) = some k5 := rfl
    have hlen : k5.length ≤ 100000 := by decide
    unfold G_web_of runP F_web_of start0
    simp only [sWeb_e]
    simp only [List.map_cons, List.map_nil, List.length_cons, List.length_nil, List.replicate_succ, List.replicate_zero, List.cons_append, List.nil_append, if_true]
    rw [hlc]
    simp only [Option.bind_some, hks, ho, hk, hsb, hlen, h, fVar_e]
    rfl
  unfold G_ring_web runP F_ring_web start0
  simp only [sSeq_e]
  unfold sCallX
  simp [-Option.map_eq_some_iff, hn, hr, rg, hw, gMod_e]
end N

set_option Elab.async false
set_option linter.all false
set_option maxRecDepth 100000
set_option maxHeartbeats 1000000
/-! M29: _law_right. -/
namespace N
open PySem
def R_1 : FS := sAsg (fCallD 0 G__law_made (fNil)) (tgT [1, 2])
def R_2 : FS := sIf (fB (fOp gEq (fCallD 0 G__law_roll (fCons (fC (.int 3)) (fNil))) (fC (.int 0)))) (sAsg (fCallD 0 G__law_some_web (fCons (fC (.int 7)) (fNil))) (tgN 1)) (sNext)
def R_3 : FS := sAsg (fIf (fAnd (fB (fCall G__law_is_own_switch (fCons (fVar 1) (fCons (fLc (fSeq (fVar 2)) (tgN 16) (fB (fOp gLt (fVar 16) (fOp gIx (fVar 1) (fC (.int 0))))) (fVar 16) [16]) (fNil))))) (fB (fOp gLt (fUn gMax (fVar 2)) (fOp gIx (fVar 1) (fC (.int 0)))))) (fVar 2) (fUn gTuple (fUn gSorted (fSl (fCallD 0 G__law_shuffled (fCons (fOp gIx (fVar 1) (fC (.int 0))) (fNil))) fNoPart (fPart (fOp gAdd (fC (.int 1)) (fCallD 0 G__law_roll (fCons (fOp gIx (fVar 1) (fC (.int 0))) (fNil))))))))) (tgN 3)
def R_4 : FS := sAsg (fCall G__law_is_own_switch (fCons (fVar 1) (fCons (fVar 3) (fNil)))) (tgN 4)
def R_5 : FS := sIf (fB (fOp gNe (fCall G_is_switch (fCons (fVar 1) (fCons (fVar 3) (fNil)))) (fVar 4))) (sRet (fC (.bool false))) (sNext)
def R_6 : FS := sIf (fB (fVar 4)) (sSeq (sAsg (fCall G_switched (fCons (fVar 1) (fCons (fVar 3) (fNil)))) (tgN 5)) (sSeq (sIf (fOr (fB (fOp gNe (fVar 5) (fCall G__law_own_switched (fCons (fVar 1) (fCons (fVar 3) (fNil)))))) (fOr (fB (fOp gNe (fCall G_polynomial (fCons (fVar 5) (fNil))) (fCall G_polynomial (fCons (fVar 1) (fNil))))) (fB (fOp gNe (fCall G_switched (fCons (fVar 5) (fCons (fVar 3) (fNil)))) (fVar 1))))) (sRet (fC (.bool false))) (sNext)) (sFor (fRg2 (fCons (fC (.int 2)) (fCons (fC (.int 6)) (fNil)))) (tgN 6) (sIf (fB (fOp gNe (fCall G_closed_walks (fCons (fVar 5) (fCons (fVar 6) (fNil)))) (fCall G_closed_walks (fCons (fVar 1) (fCons (fVar 6) (fNil)))))) (sRet (fC (.bool false))) (sNext))))) (sIf (fB (fOp gNe (fRef G_switched (fCons (fVar 1) (fCons (fVar 3) (fNil)))) (fC (.str "places")))) (sRet (fC (.bool false))) (sNext))
def R_7 : FS := sAsg (fOp gAdd (fC (.int 1)) (fCallD 0 G__law_roll (fCons (fC (.int 4)) (fNil)))) (tgN 7)
def R_8 : FS := sIf (fB (fOp gNe (fCall G_switches (fCons (fVar 1) (fCons (fVar 7) (fNil)))) (fUn gTuple (fLc (fSeq (fCall G__law_some (fCons (fOp gIx (fVar 1) (fC (.int 0))) (fCons (fVar 7) (fNil))))) (tgN 8) (fB (fCall G__law_is_own_switch (fCons (fVar 1) (fCons (fVar 8) (fNil))))) (fVar 8) [8])))) (sRet (fC (.bool false))) (sNext)
def R_9 : FS := sAsg (fUn gTuple (fLc (fRg1 (fOp gIx (fVar 1) (fC (.int 0)))) (tgN 15) (fB (fOp gEq (fCallD 0 G__law_roll (fCons (fC (.int 2)) (fNil))) (fC (.int 0)))) (fVar 15) [15])) (tgN 8)
def R_10 : FS := sAsg (fCall G_turned_web (fCons (fVar 1) (fCons (fVar 8) (fNil)))) (tgN 9)
def R_11 : FS := sAsg (fLc (fSeq (fCall G__law_some (fCons (fOp gIx (fVar 1) (fC (.int 0))) (fCons (fC (.int 2)) (fNil))))) (tgT [13, 14]) (fB (fOp gNe (fOp (gIn false) (fTup (fCons (fVar 13) (fCons (fVar 14) (fNil)))) (fOp gIx (fVar 1) (fC (.int 1)))) (fOp gNe (fOp (gIn false) (fVar 13) (fVar 8)) (fOp (gIn false) (fVar 14) (fVar 8))))) (fTup (fCons (fVar 13) (fCons (fVar 14) (fNil)))) [13, 14]) (tgN 10)
def R_12 : FS := sIf (fOr (fB (fOp gNe (fVar 9) (fTup (fCons (fOp gIx (fVar 1) (fC (.int 0))) (fCons (fUn gTuple (fVar 10)) (fNil)))))) (fB (fOp gNe (fCall G_turned_web (fCons (fVar 9) (fCons (fVar 8) (fNil)))) (fVar 1)))) (sRet (fC (.bool false))) (sNext)
def R_13 : FS := sIf (fOr (fB (fOp gNe (fCall G_odd_triples (fCons (fVar 1) (fNil))) (fCall G__law_odd_triples (fCons (fVar 1) (fNil))))) (fB (fOp gNe (fCall G_odd_triples (fCons (fVar 9) (fNil))) (fCall G_odd_triples (fCons (fVar 1) (fNil)))))) (sRet (fC (.bool false))) (sNext)
def R_14 : FS := sIf (fOr (fB (fCall G_is_switch (fCons (fVar 1) (fCons (fTup (fNil)) (fNil))))) (fOr (fB (fCall G_is_switch (fCons (fVar 1) (fCons (fUn gList (fVar 3)) (fNil))))) (fOr (fB (fCall G_is_switch (fCons (fVar 1) (fCons (fC .none) (fNil))))) (fOr (fB (fCall G_is_switch (fCons (fVar 1) (fCons (fTup (fCons (fOp gIx (fVar 1) (fC (.int 0))) (fNil))) (fNil))))) (fB (fCall G_is_switch (fCons (fVar 1) (fCons (fOp gAdd (fVar 3) (fSl (fVar 3) fNoPart (fPart (fC (.int 1))))) (fNil))))))))) (sRet (fC (.bool false))) (sNext)
def R_15 : FS := sAsg (fCallD 0 G__law_bad_web (fNil)) (tgN 11)
def R_16 : FS := sAsg (fLst (fCons (fRef G_is_switch (fCons (fVar 11) (fCons (fTup (fNil)) (fNil)))) (fCons (fRef G_switched (fCons (fVar 1) (fCons (fC .none) (fNil)))) (fCons (fRef G_turned_web (fCons (fVar 1) (fCons (fTup (fCons (fC (.int 1)) (fCons (fC (.int 0)) (fCons (fC (.int 1)) (fNil))))) (fNil)))) (fCons (fRef G_turned_web (fCons (fVar 11) (fCons (fTup (fNil)) (fNil)))) (fCons (fRef G_odd_triples (fCons (fVar 11) (fNil))) (fCons (fRef G_switches (fCons (fCall G_ring_web (fCons (fC (.int 5)) (fNil))) (fCons (fC (.int 5)) (fNil)))) (fCons (fRef G_switches (fCons (fCall G_ring_web (fCons (fC (.int 5)) (fNil))) (fCons (fC (.bool true)) (fNil)))) (fNil))))))))) (tgN 12)
def R_17 : FS := sRet (fOp gEq (fVar 12) (fLst (fCons (fC (.str "web")) (fCons (fC (.str "places")) (fCons (fC (.str "places")) (fCons (fC (.str "web")) (fCons (fC (.str "web")) (fCons (fC (.str "size")) (fCons (fC (.str "size")) (fNil))))))))))
theorem F__law_right_split : F__law_right = sSeq R_1 (sSeq R_2 (sSeq R_3 (sSeq R_4 (sSeq R_5 (sSeq R_6 (sSeq R_7 (sSeq R_8 (sSeq R_9 (sSeq R_10 (sSeq R_11 (sSeq R_12 (sSeq R_13 (sSeq R_14 (sSeq R_15 (sSeq R_16 (R_17)))))))))))))))) := rfl
@[simp] theorem fRef_e {G : List PyData → Option Res} {A : FA} {en : En} : fRef G A en = (A en).bind fun p => (G p.1).map fun r => match r with
  | .ok _ => (.str "", p.2)
  | .bad x => (.str x, p.2) := rfl
theorem is_switch_no {n : Nat} {A : Nat → Nat → Bool} {D : PyData} (h1 : 1 ≤ n) (h2 : n ≤ 26) (h : G_is_some [wD n A, D] = some (.ok (.bool false))) : G_is_switch [wD n A, D] = some (.ok (.bool false)) := by
  have hn := wD_need (A := A) h1 h2 "web"
  unfold G_is_switch runP F_is_switch start0
  simp only [sSeq_e]
  unfold sCallX
  simp [-Option.map_eq_some_iff, hn, h]
theorem is_switch_nil {n : Nat} {A : Nat → Nat → Bool} (h1 : 1 ≤ n) (h2 : n ≤ 26) : G_is_switch [wD n A, .tuple []] = some (.ok (.bool false)) := by
  have hn := wD_need (A := A) h1 h2 "web"
  have hi := is_some_ok (n := n) (w := .tuple ((Plx.ties n A).map pD)) (P := []) (by simp)
  rw [show someB n [] = true from rfl] at hi
  have hi' : G_is_some [wD n A, .tuple []] = some (.ok (.bool true)) := hi
  unfold G_is_switch runP F_is_switch start0
  simp only [sSeq_e]
  unfold sCallX
  simp [-Option.map_eq_some_iff, hn, hi']
theorem is_switch_t {n : Nat} {A : Nat → Nat → Bool} {P : List Nat} (h1 : 1 ≤ n) (h2 : n ≤ 26) (hl : P.length ≤ 1000) (h : someB n P = false) : G_is_switch [wD n A, tN P] = some (.ok (.bool false)) := by
  have hi := is_some_ok (n := n) (w := .tuple ((Plx.ties n A).map pD)) hl
  rw [h] at hi
  exact is_switch_no h1 h2 hi
theorem not_some {n : Nat} {P : List Nat} (h : ¬ ((∀ x ∈ P, x < n) ∧ Plx.Asc P)) : someB n P = false := Bool.eq_false_iff.mpr fun z => h (someB_iff.mp z)
theorem LY.str (s : Str) (h : (PyData.str s).canLay0 = true) : LY 0 (.str s) := ⟨h, by simp [PyData.depth]⟩
theorem max_ex {M : List Nat} (h : M ≠ []) : ∃ mx : Nat, maxOf (M.map nD) = some (nD mx) ∧ ∀ x ∈ M, x ≤ mx := by
  cases M with
  | nil => exact absurd rfl h
  | cons p P =>
    obtain ⟨j, j1, j2⟩ := maxOf_sw (f := fun x => x) (x := p) (P := P)
    obtain ⟨h1, h2, h3⟩ := fold_max (l := P.map fun a => ((a : Nat) : Int)) (a := (p : Int))
    rw [← j2] at h1 h2
    have hj : ((j.toNat : Nat) : Int) = j := Int.toNat_of_nonneg (by omega)
    refine ⟨j.toNat, ?_, fun x hx => ?_⟩
    · show maxOf (nD p :: P.map nD) = _
      rw [j1]
      show _ = some (PyData.int ((j.toNat : Nat) : Int))
      rw [hj]
    · rcases List.mem_cons.mp hx with rfl | hx
      · omega
      · have := h2 (x : Int) (List.mem_map.mpr ⟨x, hx, rfl⟩)
        omega
abbrev no12 : List Sl := [.no, .no, .no, .no, .no, .no, .no, .no, .no, .no, .no, .no]
/-- the first places of a drawn order -/
theorem shufP {k n : Nat} {A : Nat → Nat → Bool} {M : List Nat} {d : List PyData} (hd : Dc k d) (hk : k ≤ 800000) (h1 : 1 ≤ n) (h2 : n ≤ 7) : ∃ d' P, fUn gTuple (fUn gSorted (fSl (fCallD 0 G__law_shuffled (fCons (fOp gIx (fVar 1) (fC (.int 0))) (fNil))) fNoPart (fPart (fOp gAdd (fC (.int 1)) (fCallD 0 G__law_roll (fCons (fOp gIx (fVar 1) (fC (.int 0))) (fNil))))))) (.mu d :: .im (wD n A) :: .im (tN M) :: .no :: .no :: no12)
    = some (tN P, .mu d' :: .im (wD n A) :: .im (tN M) :: .no :: .no :: no12) ∧ Plx.Asc P ∧ (∀ x ∈ P, x < n) ∧ P ≠ [] ∧ Dc (k + 8) d' := by
  obtain ⟨d1, row, e1, hrow, hd1⟩ := shuf_ok hd (by omega) h2
  obtain ⟨d2, r, e2, hr, hd2⟩ := roll_ok (many := n) hd1 (by omega) h1 (by omega)
  obtain ⟨m, hm⟩ : ∃ m, m = 1 + r := ⟨_, rfl⟩
  have hc : (1 : Int) + (r : Int) = (m : Int) := by omega
  obtain ⟨P, P1, P2, P3, P4⟩ := sort_part (m := m) hrow
  have ct := cutD_to (ds := row.map nD) (m := m)
  rw [List.map_take] at P4
  refine ⟨d2, P, ?_, P1, P2, fun e => ?_, hd2.mono (by omega)⟩
  · simp [-Option.map_eq_some_iff, e1, e2, hc, gSl, ct, P4]
  · rw [e] at P3
    simp at P3
    omega
theorem stage3 {k : Nat} {dd : List PyData} (hd : Dc k dd) (hk : k ≤ 100000) : ∃ d n A M P, sSeq R_1 (sSeq R_2 R_3) (startD 16 dd []) = some (.nx (.mu d :: .im (wD n A) :: .im (tN M) :: .im (tN P) :: .no :: no12)) ∧ Plx.Wb A ∧ 1 ≤ n ∧ n ≤ 7 ∧ Plx.Asc P ∧ (∀ x ∈ P, x < n) ∧ P ≠ [] ∧ Dc (k + 300) d := by
  obtain ⟨d1, n0, A0, M, e1, w0, a1, a2, aM, bM, lM, hd1⟩ := made_ok hd (by omega)
  have hM : M ≠ [] := fun e => by rw [e] at lM; simp at lM
  have r1 : R_1 (startD 16 dd []) = some (.nx (.mu d1 :: .im (wD n0 A0) :: .im (tN M) :: .no :: .no :: no12)) := by
    unfold R_1 startD
    simp [-Option.map_eq_some_iff, e1]
  have r2 : ∃ d n A, R_2 (.mu d1 :: .im (wD n0 A0) :: .im (tN M) :: .no :: .no :: no12) = some (.nx (.mu d :: .im (wD n A) :: .im (tN M) :: .no :: .no :: no12)) ∧ Plx.Wb A ∧ 1 ≤ n ∧ n ≤ 7 ∧ Dc (k + 201) d := by
    obtain ⟨d2, r, e2, hr, hd2⟩ := roll_ok (many := 3) hd1 (by omega) (by omega) (by omega)
    have e2' : G__law_roll d1 [.int 3] = some (d2, .int (r : Int)) := e2
    by_cases c : r = 0
    · subst c
      obtain ⟨d3, n, A, e3, w, n1, n2, hd3⟩ := some_web_ok hd2 (by omega)
      refine ⟨d3, n, A, ?_, w, n1, n2, hd3.mono (by omega)⟩
      unfold R_2
      simp [-Option.map_eq_some_iff, e2', e3]
    · have c2 : ¬ (r : Int) = 0 := by omega
      refine ⟨d2, n0, A0, ?_, w0, a1, a2, hd2.mono (by omega)⟩
      unfold R_2
      simp [-Option.map_eq_some_iff, e2', c, c2]
  obtain ⟨d, n, A, r2, w, n1, n2, hd2⟩ := r2
  obtain ⟨F, hF⟩ : ∃ F, F = M.filter fun x => decide (x < n) := ⟨_, rfl⟩
  have fl : F.length ≤ 4 := by
    rw [hF, ← lM]
    exact List.length_filter_le _ _
  have own := own_switch_ok (RowN.l F) (show n ≤ 26 by omega) w (by omega) (fun x hx => by
    rw [hF] at hx
    simpa using (List.mem_filter.mp hx).2)
  obtain ⟨b, hb⟩ : ∃ b, b = (decide (F ≠ []) && swB n A F) := ⟨_, rfl⟩
  rw [← hb] at own
  have lc : lcGo (tgN 16) (fB (fOp gLt (fVar 16) (fOp gIx (fVar 1) (fC (.int 0))))) (fVar 16) [16] (M.map nD) (.mu d :: .im (wD n A) :: .im (tN M) :: .no :: .no :: no12) = some (F.map nD, .mu d :: .im (wD n A) :: .im (tN M) :: .no :: .no :: no12) := by
    rw [hF]
    refine lcGo_filter fun x _ => ?_
    unfold lcStep
    by_cases c : x < n <;> simp [-Option.map_eq_some_iff, c]
  have lM2 : M.length ≤ 100000 := by omega
  obtain ⟨mx, hmx, hle⟩ := max_ex hM
  obtain ⟨d3, P, e3, P1, P2, P3, hd3⟩ := shufP (A := A) (M := M) hd2 (by omega) n1 n2
  by_cases c : b = true ∧ mx < n
  · obtain ⟨c1, c2⟩ := c
    refine ⟨d, n, A, M, M, ?_, w, n1, n2, aM, fun x hx => by have := hle x hx; omega, hM, hd2.mono (by omega)⟩
    rw [sSeq_e, r1]
    simp only [Option.bind_some]
    rw [sSeq_e, r2]
    simp only [Option.bind_some]
    unfold R_3
    rw [c1] at own
    simp [-Option.map_eq_some_iff, lM2, lc, own, hmx, c2]
  · refine ⟨d3, n, A, M, P, ?_, w, n1, n2, P1, P2, P3, hd3.mono (by omega)⟩
    rw [sSeq_e, r1]
    simp only [Option.bind_some]
    rw [sSeq_e, r2]
    simp only [Option.bind_some]
    unfold R_3
    have ca : fAnd (fB (fCall G__law_is_own_switch (fCons (fVar 1) (fCons (fLc (fSeq (fVar 2)) (tgN 16) (fB (fOp gLt (fVar 16) (fOp gIx (fVar 1) (fC (.int 0))))) (fVar 16) [16]) (fNil))))) (fB (fOp gLt (fUn gMax (fVar 2)) (fOp gIx (fVar 1) (fC (.int 0))))) (.mu d :: .im (wD n A) :: .im (tN M) :: .no :: .no :: no12) = some (false, .mu d :: .im (wD n A) :: .im (tN M) :: .no :: .no :: no12) := by
      cases hbb : b with
      | false =>
        rw [hbb] at own
        simp [-Option.map_eq_some_iff, lM2, lc, own]
      | true =>
        rw [hbb] at own
        have c2 : ¬ mx < n := fun z => c ⟨hbb, z⟩
        simp [-Option.map_eq_some_iff, lM2, lc, own, hmx, c2]
    rw [sAsg_e, fIf_e, ca]
    simp only [Option.bind_some, Bool.false_eq_true, if_false]
    rw [e3]
    simp
end N

set_option Elab.async false
set_option linter.all false
set_option maxRecDepth 100000
set_option maxHeartbeats 1000000
/-! M30: _law_right, 2. -/
namespace N
open PySem
section
variable {n : Nat} {A : Nat → Nat → Bool} {M P : List Nat} {d : List PyData}
theorem own_sw (n2 : n ≤ 7) (w : Plx.Wb A) (hb : ∀ x ∈ P, x < n) (hne : P ≠ []) (hl : P.length ≤ 1000) : G__law_is_own_switch [wD n A, tN P] = some (.ok (.bool (swB n A P))) := by
  have z := own_switch_ok (RowN.t P) (show n ≤ 26 by omega) w hl hb
  rw [show decide (P ≠ []) = true from decide_eq_true hne, Bool.true_and] at z
  exact z
theorem st4 (n2 : n ≤ 7) (w : Plx.Wb A) (hb : ∀ x ∈ P, x < n) (hne : P ≠ []) (hl : P.length ≤ 1000) : R_4 (.mu d :: .im (wD n A) :: .im (tN M) :: .im (tN P) :: .no :: no12) = some (.nx (.mu d :: .im (wD n A) :: .im (tN M) :: .im (tN P) :: .im (.bool (swB n A P)) :: no12)) := by
  have z := own_sw n2 w hb hne hl
  unfold R_4
  simp [-Option.map_eq_some_iff, z]
theorem st5 (n1 : 1 ≤ n) (n2 : n ≤ 7) (w : Plx.Wb A) (ha : Plx.Asc P) (hb : ∀ x ∈ P, x < n) (hne : P ≠ []) (hl : P.length ≤ 1000) : R_5 (.mu d :: .im (wD n A) :: .im (tN M) :: .im (tN P) :: .im (.bool (swB n A P)) :: no12) = some (.nx (.mu d :: .im (wD n A) :: .im (tN M) :: .im (tN P) :: .im (.bool (swB n A P)) :: no12)) := by
  have z := is_switch_ok n1 (show n ≤ 26 by omega) w hl hne
  rw [someB_iff.mpr ⟨hb, ha⟩, Bool.true_and] at z
  unfold R_5
  simp [-Option.map_eq_some_iff, z]
abbrev no9 : List Sl := [.no, .no, .no, .no, .no, .no, .no, .no, .no]
theorem LY.places : LY 0 (.str "places") := LY.str _ (by decide +kernel)
theorem st6 (n1 : 1 ≤ n) (n2 : n ≤ 7) (w : Plx.Wb A) (ha : Plx.Asc P) (hb : ∀ x ∈ P, x < n) (hne : P ≠ []) (hl : P.length ≤ 1000) : ∃ s5 s6, isPlain (some s5) = true ∧ isPlain (some s6) = true ∧ R_6 (.mu d :: .im (wD n A) :: .im (tN M) :: .im (tN P) :: .im (.bool (swB n A P)) :: no12) = some (.nx (.mu d :: .im (wD n A) :: .im (tN M) :: .im (tN P) :: .im (.bool (swB n A P)) :: s5 :: s6 :: .no :: no9)) := by
  cases c : swB n A P with
  | false =>
    have z := is_switch_ok n1 (show n ≤ 26 by omega) w hl hne
    rw [c, Bool.and_false] at z
    have s := switched_no n1 (by omega) z
    have g := gNe_refl LY.places (by omega)
    refine ⟨.no, .no, rfl, rfl, ?_⟩
    unfold R_6
    simp [-Option.map_eq_some_iff, s, g]
  | true =>
    have h26 : n ≤ 26 := by omega
    have s1 := switched_ok n1 h26 w ha hb hne c
    have s2 := own_switched_ok n2 w ha hb
    have hS := swB_sw w ha hb hne c
    obtain ⟨B, hB⟩ : ∃ B, B = Plx.sw n A fun k => P.contains k := ⟨_, rfl⟩
    have wB : Plx.Wb B := by rw [hB]; exact Plx.sw_wb w
    have c2 := swB_sw2 w ha hb hne c
    have s3 := switched_ok (A := B) n1 h26 wB ha hb hne (by rw [hB]; exact c2)
    have p1 := poly_ok n1 h26 w
    have p2 := poly_ok (A := B) n1 h26 wB
    have pe := poly_eq hS
    have back : wD n (Plx.sw n B fun k => P.contains k) = wD n A := by
      rw [hB]
      show PyData.tuple [_, .tuple ((Plx.ties n _).map pD)] = PyData.tuple [_, .tuple ((Plx.ties n _).map pD)]
      rw [Plx.ties_congr (B := A) fun i j hi hj => Plx.sw_sw hS (by omega) hj]
    have wk : ∀ k, Plx.tr n (pw n (Plx.mx B) k) = Plx.tr n (pw n (Plx.mx A) k) := fun k => by rw [hB]; exact walks_eq hS k
    rw [back] at s3
    rw [← hB] at s1 s2 pe
    rw [pe] at p2
    obtain ⟨L, hL⟩ : ∃ L, L = (poL n (Plx.mx A) n).reverse := ⟨_, rfl⟩
    rw [← hL] at p1 p2
    have g1 := gNe_refl (LY.wD n B) (by omega)
    have g2 := gNe_refl (LY.wD n A) (by omega)
    have g3 := gNe_refl (LY.tup (LY.map (k := 0) (f := PyData.int) (xs := L) fun _ _ => LY.int _)) (by omega)
    have rg : rgOk 2 6 = true := by decide
    have rd : rngD 2 4 = (List.range' 2 4).map nD := rngD_c 2 4
    have loop := forGo_ix (tg := tgN 6) (F := sIf (fB (fOp gNe (fCall G_closed_walks (fCons (fVar 5) (fCons (fVar 6) (fNil)))) (fCall G_closed_walks (fCons (fVar 1) (fCons (fVar 6) (fNil)))))) (sRet (fC (.bool false))) (sNext)) (enc := nD)
      (fun pre e => ∃ s6, isPlain (some s6) = true ∧ e = .mu d :: .im (wD n A) :: .im (tN M) :: .im (tN P) :: .im (.bool true) :: .im (wD n B) :: s6 :: .no :: no9)
      (xs := List.range' 2 4) (pre := []) (e := .mu d :: .im (wD n A) :: .im (tN M) :: .im (tN P) :: .im (.bool true) :: .im (wD n B) :: .no :: .no :: no9) ?_ ?_
    · obtain ⟨e', l1, s6, p6, rfl⟩ := loop
      refine ⟨.im (wD n B), s6, rfl, p6, ?_⟩
      unfold R_6
      simp [-Option.map_eq_some_iff, s1, s2, s3, p1, p2, g1, g2, g3, rg, rd, l1]
    · intro pre t post ht e he
      obtain ⟨s6, p6, rfl⟩ := he
      have ht2 : t < 6 := by
        have z : t ∈ List.range' 2 4 := by rw [← ht]; simp
        rw [List.mem_range'] at z
        obtain ⟨i, hi, rfl⟩ := z
        omega
      have k1 := walks_ok (A := A) (k := t) n1 h26 w (by omega)
      have k2 := walks_ok (A := B) (k := t) n1 h26 wB (by omega)
      rw [wk] at k2
      refine ⟨_, ?_, .im (nD t), rfl, rfl⟩
      simp [-Option.map_eq_some_iff, p6, k1, k2]
    · exact ⟨.no, rfl, rfl⟩
theorem st7 {k : Nat} {s5 s6 : Sl} (p5 : isPlain (some s5) = true) (p6 : isPlain (some s6) = true) {g : Bool} (hd : Dc k d) (hk : k ≤ 900000) : ∃ d' z, 1 ≤ z ∧ z ≤ 4 ∧ Dc (k + 1) d' ∧ R_7 (.mu d :: .im (wD n A) :: .im (tN M) :: .im (tN P) :: .im (.bool g) :: s5 :: s6 :: .no :: no9) = some (.nx (.mu d' :: .im (wD n A) :: .im (tN M) :: .im (tN P) :: .im (.bool g) :: s5 :: s6 :: .im (nD z) :: no9)) := by
  obtain ⟨d1, r, e1, hr, hd1⟩ := roll_ok (many := 4) hd (by omega) (by omega) (by omega)
  have e1' : G__law_roll d [.int 4] = some (d1, .int (r : Int)) := e1
  refine ⟨d1, 1 + r, by omega, by omega, hd1, ?_⟩
  unfold R_7
  simp [-Option.map_eq_some_iff, e1']
theorem st8 {z : Nat} {s4 s5 s6 : Sl} (n1 : 1 ≤ n) (n2 : n ≤ 7) (w : Plx.Wb A) (z1 : 1 ≤ z) (z2 : z ≤ 4) : R_8 (.mu d :: .im (wD n A) :: .im (tN M) :: .im (tN P) :: s4 :: s5 :: s6 :: .im (nD z) :: no9) = some (.nx (.mu d :: .im (wD n A) :: .im (tN M) :: .im (tN P) :: s4 :: s5 :: s6 :: .im (nD z) :: no9)) := by
  have e1 := switches_ok (k := z) n1 n2 w z1 z2
  have e2 := law_some_ok (k := z) n2 z2
  have hl := some_len n2 z2
  have hl2 : (Plx.someL n z).length ≤ 100000 := by omega
  have fin : lcGo (tgN 8) (fB (fCall G__law_is_own_switch (fCons (fVar 1) (fCons (fVar 8) (fNil))))) (fVar 8) [8] ((Plx.someL n z).map tN) (.mu d :: .im (wD n A) :: .im (tN M) :: .im (tN P) :: s4 :: s5 :: s6 :: .im (nD z) :: no9)
      = some (((Plx.someL n z).filter (swB n A)).map tN, .mu d :: .im (wD n A) :: .im (tN M) :: .im (tN P) :: s4 :: s5 :: s6 :: .im (nD z) :: no9) := by
    refine lcGo_filter fun r hr => ?_
    obtain ⟨q1, q2, q3⟩ := Plx.mem_some hr
    have o := own_sw (P := r) n2 w q2 (fun e => by subst e; simp at q3; omega) (by omega)
    unfold lcStep
    simp [-Option.map_eq_some_iff, o]
    cases swB n A r <;> simp
  obtain ⟨Z, hZ⟩ : ∃ Z, Z = (Plx.someL n z).filter (swB n A) := ⟨_, rfl⟩
  rw [← hZ] at e1 fin
  have g := gNe_refl (LY.tup (LY.map (k := 1) (f := tN) (xs := Z) fun r _ => LY.tN r)) (by omega)
  unfold R_8
  simp [-Option.map_eq_some_iff, e1, e2, hl2, fin, g]
theorem st9 {k z : Nat} {s4 s5 s6 : Sl} (n2 : n ≤ 7) (hd : Dc k d) (hk : k ≤ 900000) : ∃ (d' : List PyData) (Q : List Nat), Dc (k + 7) d' ∧ Plx.Asc Q ∧ (∀ x ∈ Q, x < n) ∧ R_9 (.mu d :: .im (wD n A) :: .im (tN M) :: .im (tN P) :: s4 :: s5 :: s6 :: .im (nD z) :: no9) = some (.nx (.mu d' :: .im (wD n A) :: .im (tN M) :: .im (tN P) :: s4 :: s5 :: s6 :: .im (nD z) :: .im (tN Q) :: [.no, .no, .no, .no, .no, .no, .no, .no])) := by
  obtain ⟨ys, e', l1, l2, d2, hd2, rfl⟩ := lcGo_st (tg := tgN 15) (ft := fB (fOp gEq (fCallD 0 G__law_roll (fCons (fC (.int 2)) (fNil))) (fC (.int 0)))) (fe := fVar 15) (vs := [15]) (enc := nD) (f := nD)
    (fun j e => ∃ dd', Dc (k + j) dd' ∧ e = .mu dd' :: .im (wD n A) :: .im (tN M) :: .im (tN P) :: s4 :: s5 :: s6 :: .im (nD z) :: no9) (xs := List.range n) (j := 0) (e := .mu d :: .im (wD n A) :: .im (tN M) :: .im (tN P) :: s4 :: s5 :: s6 :: .im (nD z) :: no9) (fun x hx j' e a b he => by
      obtain ⟨dd', hd, rfl⟩ := he
      simp at b
      obtain ⟨d3, q, e3, hq, hd3⟩ := roll_ok (many := 2) hd (by omega) (by omega) (by omega)
      have e3' : G__law_roll dd' [.int 2] = some (d3, .int (q : Int)) := e3
      by_cases c : q = 0
      · subst c
        refine ⟨some (nD x), _, ?_, .inr rfl, d3, hd3, rfl⟩
        unfold lcStep
        simp [-Option.map_eq_some_iff, e3']
      · have c2 : ¬ (q : Int) = 0 := by omega
        refine ⟨none, _, ?_, .inl rfl, d3, hd3, rfl⟩
        unfold lcStep
        simp [-Option.map_eq_some_iff, e3', c2, c]) ⟨d, hd, rfl⟩
  have hr : rgOk 0 (n : Int) = true := rgOk_nat0 (by omega)
  rw [List.length_range] at hd2
  refine ⟨d2, ys, hd2.mono (by omega), Plx.asc_range.sublist l2, fun x hx => List.mem_range.mp (l2.subset hx), ?_⟩
  unfold R_9
  simp [-Option.map_eq_some_iff, hr, rngD_n0, l1]
end
end N

set_option Elab.async false
set_option linter.all false
set_option maxRecDepth 100000
set_option maxHeartbeats 1000000
/-! M31: _law_right, 3. -/
namespace N
open PySem
section
variable {n z : Nat} {A : Nat → Nat → Bool} {M P Q : List Nat} {d : List PyData} {s4 s5 s6 : Sl}
abbrev tnQ (A : Nat → Nat → Bool) (Q : List Nat) : Nat → Nat → Bool := Plx.tn A fun k => Q.contains k
theorem st10 (n1 : 1 ≤ n) (n2 : n ≤ 7) (w : Plx.Wb A) (ha : Plx.Asc Q) (hb : ∀ x ∈ Q, x < n) : R_10 (.mu d :: .im (wD n A) :: .im (tN M) :: .im (tN P) :: s4 :: s5 :: s6 :: .im (nD z) :: .im (tN Q) :: [.no, .no, .no, .no, .no, .no, .no, .no])
    = some (.nx (.mu d :: .im (wD n A) :: .im (tN M) :: .im (tN P) :: s4 :: s5 :: s6 :: .im (nD z) :: .im (tN Q) :: .im (wD n (tnQ A Q)) :: [.no, .no, .no, .no, .no, .no, .no])) := by
  have hl := Plx.asc_le ha hb
  have t := turned_ok n1 (show n ≤ 26 by omega) w (P := Q) (by omega) (someB_iff.mpr ⟨hb, ha⟩)
  obtain ⟨B, hB⟩ : ∃ B, B = tnQ A Q := ⟨_, rfl⟩
  have t' : G_turned_web [wD n A, tN Q] = some (.ok (wD n B)) := by rw [hB]; exact t
  rw [← hB]
  unfold R_10
  simp [-Option.map_eq_some_iff, t']
theorem st11 (n2 : n ≤ 7) : R_11 (.mu d :: .im (wD n A) :: .im (tN M) :: .im (tN P) :: s4 :: s5 :: s6 :: .im (nD z) :: .im (tN Q) :: .im (wD n (tnQ A Q)) :: [.no, .no, .no, .no, .no, .no, .no])
    = some (.nx (.mu d :: .im (wD n A) :: .im (tN M) :: .im (tN P) :: s4 :: s5 :: s6 :: .im (nD z) :: .im (tN Q) :: .im (wD n (tnQ A Q)) :: .im (.list ((Plx.ties n (tnQ A Q)).map pD)) :: [.no, .no, .no, .no, .no, .no])) := by
  have e2 := law_some2 n2
  have hl := some2_len n2
  have hl2 : (Plx.pairs n).length ≤ 100000 := by omega
  have lc : lcGo (tgT [13, 14]) (fB (fOp gNe (fOp (gIn false) (fTup (fCons (fVar 13) (fCons (fVar 14) (fNil)))) (fOp gIx (fVar 1) (fC (.int 1)))) (fOp gNe (fOp (gIn false) (fVar 13) (fVar 8)) (fOp (gIn false) (fVar 14) (fVar 8))))) (fTup (fCons (fVar 13) (fCons (fVar 14) (fNil)))) [13, 14] ((Plx.pairs n).map pD) (.mu d :: .im (wD n A) :: .im (tN M) :: .im (tN P) :: s4 :: s5 :: s6 :: .im (nD z) :: .im (tN Q) :: .im (wD n (tnQ A Q)) :: [.no, .no, .no, .no, .no, .no, .no])
      = some ((Plx.ties n (tnQ A Q)).map pD, .mu d :: .im (wD n A) :: .im (tN M) :: .im (tN P) :: s4 :: s5 :: s6 :: .im (nD z) :: .im (tN Q) :: .im (wD n (tnQ A Q)) :: [.no, .no, .no, .no, .no, .no, .no]) := by
    obtain ⟨W, hW⟩ : ∃ W, W = wD n (tnQ A Q) := ⟨_, rfl⟩
    rw [← hW]
    unfold Plx.ties
    refine lcGo_filter fun p hp => ?_
    obtain ⟨x, y⟩ := p
    have g := gInP_t (b := false) (x := (x, y)) (l := Plx.ties n A)
    have ct : (Plx.ties n A).contains (x, y) = A x y := by
      rw [Bool.eq_iff_iff, List.contains_iff_mem, Plx.mem_ties]
      obtain ⟨h1, h2⟩ := Plx.mem_pairs.mp hp
      simp only at h1 h2 ⊢
      simp [h1, h2]
    rw [ct] at g
    have g' : gIn false (.tuple [nD x, nD y]) (.tuple ((Plx.ties n A).map pD)) = some (.bool (A x y)) := g
    have gx := gInN_t (b := false) (x := x) (l := Q)
    have gy := gInN_t (b := false) (x := y) (l := Q)
    unfold lcStep
    simp only [tnQ, Plx.tn]
    simp [-Option.map_eq_some_iff, g', gx, gy]
    cases A x y <;> by_cases c1 : x ∈ Q <;> by_cases c2 : y ∈ Q <;> simp [-Option.map_eq_some_iff, c1, c2]
  unfold R_11
  simp [-Option.map_eq_some_iff, e2, hl2, lc]
theorem st12 (n1 : 1 ≤ n) (n2 : n ≤ 7) (w : Plx.Wb A) (ha : Plx.Asc Q) (hb : ∀ x ∈ Q, x < n) : R_12 (.mu d :: .im (wD n A) :: .im (tN M) :: .im (tN P) :: s4 :: s5 :: s6 :: .im (nD z) :: .im (tN Q) :: .im (wD n (tnQ A Q)) :: .im (.list ((Plx.ties n (tnQ A Q)).map pD)) :: [.no, .no, .no, .no, .no, .no])
    = some (.nx (.mu d :: .im (wD n A) :: .im (tN M) :: .im (tN P) :: s4 :: s5 :: s6 :: .im (nD z) :: .im (tN Q) :: .im (wD n (tnQ A Q)) :: .im (.list ((Plx.ties n (tnQ A Q)).map pD)) :: [.no, .no, .no, .no, .no, .no])) := by
  have hl := Plx.asc_le ha hb
  have t := turned_ok (A := tnQ A Q) n1 (show n ≤ 26 by omega) (Plx.tn_wb w) (P := Q) (by omega) (someB_iff.mpr ⟨hb, ha⟩)
  rw [Plx.tn_tn] at t
  have g1 := gNe_refl (LY.wD n (tnQ A Q)) (by omega)
  have g2 := gNe_refl (LY.wD n A) (by omega)
  obtain ⟨B, hB⟩ : ∃ B, B = tnQ A Q := ⟨_, rfl⟩
  rw [← hB] at t g1 ⊢
  unfold R_12
  simp [-Option.map_eq_some_iff, t, g1, g2]
theorem st13 (n1 : 1 ≤ n) (n2 : n ≤ 7) (w : Plx.Wb A) {s10 : Sl} : R_13 (.mu d :: .im (wD n A) :: .im (tN M) :: .im (tN P) :: s4 :: s5 :: s6 :: .im (nD z) :: .im (tN Q) :: .im (wD n (tnQ A Q)) :: s10 :: [.no, .no, .no, .no, .no, .no])
    = some (.nx (.mu d :: .im (wD n A) :: .im (tN M) :: .im (tN P) :: s4 :: s5 :: s6 :: .im (nD z) :: .im (tN Q) :: .im (wD n (tnQ A Q)) :: s10 :: [.no, .no, .no, .no, .no, .no])) := by
  have o1 := odd_ok n1 (show n ≤ 26 by omega) w
  have o2 := law_odd_ok n2 w
  have o3 := odd_ok (A := tnQ A Q) n1 (show n ≤ 26 by omega) (Plx.tn_wb w)
  rw [Plx.odd_tn] at o3
  obtain ⟨B, hB⟩ : ∃ B, B = tnQ A Q := ⟨_, rfl⟩
  rw [← hB] at o3 ⊢
  unfold R_13
  simp [-Option.map_eq_some_iff, o1, o2, o3]
theorem st14 (n1 : 1 ≤ n) (n2 : n ≤ 7) (hne : P ≠ []) (hl : P.length ≤ 7) {r : List Sl} : R_14 (.mu d :: .im (wD n A) :: .im (tN M) :: .im (tN P) :: r) = some (.nx (.mu d :: .im (wD n A) :: .im (tN M) :: .im (tN P) :: r)) := by
  have h26 : n ≤ 26 := by omega
  have q1 := is_switch_nil (A := A) n1 h26
  have q2 := is_switch_no (A := A) n1 h26 (is_some_list (wD n A) (P.map nD))
  have q3 := is_switch_no (A := A) n1 h26 (is_some_none (wD n A))
  have q4 := is_switch_t (A := A) (P := [n]) n1 h26 (by simp) (not_some fun h => by have := h.1 n (by simp); omega)
  have q5 := is_switch_t (A := A) (P := P ++ P.take 1) n1 h26 (by rw [List.length_append, List.length_take]; omega) (not_some fun h => by
    cases P with
    | nil => exact hne rfl
    | cons p P =>
      have z := (List.pairwise_append.mp h.2).2.2 p List.mem_cons_self p (by simp)
      omega)
  have q4' : G_is_switch [wD n A, .tuple [nD n]] = some (.ok (.bool false)) := q4
  have ct := cutD_to (ds := P.map nD) (m := 1)
  have ct' : cutD (P.map nD) none (some 1) = (P.map nD).take 1 := ct
  have hl2 : P.length + min 1 P.length ≤ 100000 := by omega
  have q5' : G_is_switch [wD n A, .tuple (P.map nD ++ (P.map nD).take 1)] = some (.ok (.bool false)) := by
    rw [← List.map_take, ← List.map_append]
    exact q5
  have gl : gList (tN P) = some (lN P) := rfl
  unfold R_14
  simp [-Option.map_eq_some_iff, q1, q2, q3, q4', ct', gAdd, gSl, hl2, q5', gl]
theorem st15 {k : Nat} {s10 : Sl} (hd : Dc k d) (hk : k ≤ 900000) : ∃ d' W, W ∈ badWebs ∧ R_15 (.mu d :: .im (wD n A) :: .im (tN M) :: .im (tN P) :: s4 :: s5 :: s6 :: .im (nD z) :: .im (tN Q) :: .im (wD n (tnQ A Q)) :: s10 :: [.no, .no, .no, .no, .no, .no])
    = some (.nx (.mu d' :: .im (wD n A) :: .im (tN M) :: .im (tN P) :: s4 :: s5 :: s6 :: .im (nD z) :: .im (tN Q) :: .im (wD n (tnQ A Q)) :: s10 :: .im W :: [.no, .no, .no, .no, .no])) := by
  obtain ⟨d1, W, e1, hW, hd1⟩ := bad_web_ok hd hk
  refine ⟨d1, W, hW, ?_⟩
  unfold R_15
  simp [-Option.map_eq_some_iff, e1]
def names : PyData := .list [.str "web", .str "places", .str "places", .str "web", .str "web", .str "size", .str "size"]
theorem st16 (n1 : 1 ≤ n) (n2 : n ≤ 7) {W : PyData} (hW : W ∈ badWebs) {s10 : Sl} : R_16 (.mu d :: .im (wD n A) :: .im (tN M) :: .im (tN P) :: s4 :: s5 :: s6 :: .im (nD z) :: .im (tN Q) :: .im (wD n (tnQ A Q)) :: s10 :: .im W :: [.no, .no, .no, .no, .no])
    = some (.nx (.mu d :: .im (wD n A) :: .im (tN M) :: .im (tN P) :: s4 :: s5 :: s6 :: .im (nD z) :: .im (tN Q) :: .im (wD n (tnQ A Q)) :: s10 :: .im W :: .im names :: [.no, .no, .no, .no])) := by
  have h26 : n ≤ 26 := by omega
  have q1 := is_switch_bad W (.tuple []) hW
  have q2 := switched_no (A := A) n1 h26 (is_switch_no (A := A) n1 h26 (is_some_none (wD n A)))
  have q3 := turned_no (A := A) (P := [1, 0, 1]) n1 h26 (by simp) (not_some fun h => by
    have := h.2
    simp at this)
  have q3' : G_turned_web [wD n A, .tuple [.int 1, .int 0, .int 1]] = some (.bad "places") := q3
  have q4 := turned_web_bad W (.tuple []) hW
  have q5 := odd_triples_bad W hW
  obtain ⟨B, wB, q6⟩ := ring5_ex
  have q7 := wD_need (n := 5) (A := B) (by decide) (by decide) "web"
  have q8 := switches_bad5 q7
  have q9 := switches_badT q7
  obtain ⟨X, hX⟩ : ∃ X, X = wD 5 B := ⟨_, rfl⟩
  rw [← hX] at q6 q8 q9
  unfold R_16 names
  simp [-Option.map_eq_some_iff, q1, q2, q3', q4, q5, q6, q8, q9]
theorem LY.names : LY 1 names := LY.lst fun x hx => by
  simp only [List.mem_cons, List.not_mem_nil, or_false] at hx
  rcases hx with rfl | rfl | rfl | rfl | rfl | rfl | rfl <;> exact LY.str _ (by decide +kernel)
theorem hG (i m : Int) (hi : 0 ≤ i) (hm : 0 ≤ m) (hm2 : m < 2147480009) : ∃ dd', G__law_right [.int i, .int m, .int 0] [] = some (dd', .bool true) := by
  have d0 : Dc 0 [.int i, .int m, .int 0] := ⟨i, m, 0, rfl, hi, hm, hm2, by omega, by omega⟩
  obtain ⟨d1, n, A, M, P, e1, w, n1, n2, aP, bP, hne, hd1⟩ := stage3 d0 (by omega)
  have hl := Plx.asc_le aP bP
  have e4 := st4 (d := d1) (M := M) n2 w bP hne (by omega)
  have e5 := st5 (d := d1) (M := M) n1 n2 w aP bP hne (by omega)
  obtain ⟨s5, s6, p5, p6, e6⟩ := st6 (d := d1) (M := M) n1 n2 w aP bP hne (by omega)
  obtain ⟨d2, z, z1, z2, hd2, e7⟩ := st7 (n := n) (A := A) (M := M) (P := P) (g := swB n A P) p5 p6 hd1 (by omega)
  have e8 := st8 (d := d2) (M := M) (P := P) (s4 := .im (.bool (swB n A P))) (s5 := s5) (s6 := s6) n1 n2 w z1 z2
  obtain ⟨d3, Q, hd3, aQ, bQ, e9⟩ := st9 (n := n) (A := A) (M := M) (P := P) (z := z) (s4 := .im (.bool (swB n A P))) (s5 := s5) (s6 := s6) n2 hd2 (by omega)
  have e10 := st10 (z := z) (d := d3) (M := M) (P := P) (s4 := .im (.bool (swB n A P))) (s5 := s5) (s6 := s6) n1 n2 w aQ bQ
  have e11 := st11 (z := z) (d := d3) (A := A) (M := M) (P := P) (Q := Q) (s4 := .im (.bool (swB n A P))) (s5 := s5) (s6 := s6) n2
  have e12 := st12 (z := z) (d := d3) (M := M) (P := P) (s4 := .im (.bool (swB n A P))) (s5 := s5) (s6 := s6) n1 n2 w aQ bQ
  have e13 := st13 (z := z) (d := d3) (M := M) (P := P) (Q := Q) (s4 := .im (.bool (swB n A P))) (s5 := s5) (s6 := s6) (s10 := .im (.list ((Plx.ties n (tnQ A Q)).map pD))) n1 n2 w
  have e14 := st14 (d := d3) (A := A) (M := M) (P := P) n1 n2 hne (by omega) (r := .im (.bool (swB n A P)) :: s5 :: s6 :: .im (nD z) :: .im (tN Q) :: .im (wD n (tnQ A Q)) :: .im (.list ((Plx.ties n (tnQ A Q)).map pD)) :: [.no, .no, .no, .no, .no, .no])
  obtain ⟨d4, W, hW, e15⟩ := st15 (n := n) (z := z) (A := A) (M := M) (P := P) (Q := Q) (s4 := .im (.bool (swB n A P))) (s5 := s5) (s6 := s6) (s10 := .im (.list ((Plx.ties n (tnQ A Q)).map pD))) hd3 (by omega)
  have e16 := st16 (z := z) (d := d4) (A := A) (M := M) (P := P) (Q := Q) (s4 := .im (.bool (swB n A P))) (s5 := s5) (s6 := s6) (s10 := .im (.list ((Plx.ties n (tnQ A Q)).map pD))) n1 n2 hW
  refine ⟨d4, ?_⟩
  have ass : ∀ (a b c : FS) (en : En), sSeq a (sSeq b c) en = sSeq (sSeq a b) c en := fun a b c en => by
    simp only [sSeq_e]
    cases a en with
    | none => rfl
    | some o => cases o <;> rfl
  have ass3 : ∀ (a b c r : FS) (en : En), sSeq a (sSeq b (sSeq c r)) en = sSeq (sSeq a (sSeq b c)) r en := fun a b c r en => by
    simp only [sSeq_e]
    cases a en with
    | none => rfl
    | some o => cases o with
      | nx e =>
        simp only [Option.bind_some]
        cases b e with
        | none => rfl
        | some o => cases o <;> rfl
      | _ => rfl
  have g := gEq_refl LY.names (by omega)
  unfold G__law_right runD
  rw [if_pos (show ([] : List PyData).length + 1 = 1 from rfl), F__law_right_split, ass3, sSeq_e, e1, Option.bind_some]
  simp only
  rw [sSeq_e, e4, Option.bind_some]
  simp only
  rw [sSeq_e, e5, Option.bind_some]
  simp only
  rw [sSeq_e, e6, Option.bind_some]
  simp only
  rw [sSeq_e, e7, Option.bind_some]
  simp only
  rw [sSeq_e, e8, Option.bind_some]
  simp only
  rw [sSeq_e, e9, Option.bind_some]
  simp only
  rw [sSeq_e, e10, Option.bind_some]
  simp only
  rw [sSeq_e, e11, Option.bind_some]
  simp only
  rw [sSeq_e, e12, Option.bind_some]
  simp only
  rw [sSeq_e, e13, Option.bind_some]
  simp only
  rw [sSeq_e, e14, Option.bind_some]
  simp only
  rw [sSeq_e, e15, Option.bind_some]
  simp only
  rw [sSeq_e, e16, Option.bind_some]
  simp only
  unfold names at g
  unfold R_17 names
  simp [-Option.map_eq_some_iff, g, resD]
end
end N

set_option Elab.async false
set_option linter.all false
set_option maxRecDepth 100000
set_option maxHeartbeats 4000000
namespace N
open PySem PySem.Spec PyProof.Rows L2
/-! ### _law_dice -/
abbrev N__law_dice : List PySem.Str := ["script", "spot", "own", "mixed", "cell"]
theorem sc__law_dice : FnScope N__law_dice ["script", "spot"] (defScope (top 29)) := ⟨rfl, rfl, rfl, by decide +kernel, rfl, by decide +kernel, by decide +kernel⟩
theorem w__law_dice [TabOf] {P : Program} {w : World} {K : PySem.W.Frag} {mg : PySem.Str → Option Value} {base : Heap} {C fI : Addr} (T : Tx P K mg base C fI) : Wk P w K mg base 1 "_law_dice" (top 29) ["script", "spot"] (spDice K) := by
  refine wk_S T.a__law_dice sc__law_dice (by decide) (fun _ _ _ _ _ _ us hl => match us, hl with | [_, _], _ => rfl) (fun vs H Q E h => ?_) (fun _ => tDice K) dice_ok (fun f cdv hcv A outer s H E hr => ?_)
  · obtain ⟨_, _, _, rfl, _⟩ := h
    rfl
  · exact pss_cons (ps_set (i := 2) sc__law_dice.nd (by rfl) (Or.inl (by rfl)) (pe_ifExp (pt_cmpR (op_ltX hr.units0) (pv 1) (pe_callB call_len_seq (by rfl) T.b_len (by first | rfl | decide +kernel) (pa_cons (pv 0) pa_nil)) (nomark _)) (pe_ix ix_seq (pv 0) (pv 1) (fun _ _ => rfl)) (pe_op op_addX (pe_op op_mulX (pe_int) (pv 1)) (pe_int)))) (pss_cons (ps_set (i := 3) sc__law_dice.nd (by rfl) (Or.inl (by rfl)) (pe_op op_addX (pe_int) (pe_op op_mulX (pe_int) (pv 1)))) (pss_cons (ps_for (passes_of (by rfl)) (by rfl) (pi_seq (pe_op op_addX (pe_slice sl_X (pv 0) po_none (po_some (pe_int))) (pe_lst (pa_cons (pv 2) (pa_nil))))) (pg_name (i := 4) sc__law_dice.nd (by rfl) (Or.inl (by rfl))) (pss_one (ps_set (i := 3) sc__law_dice.nd (by rfl) (Or.inl (by rfl)) (pe_op op_mod (pe_callTy call_int1 (by rfl) T.b_int (by first | rfl | decide +kernel) (pa_cons (pe_op op_addX (pe_op op_mulX (pv 3) (pe_int)) (pe_op op_mod (pe_callTy call_int1 (by rfl) T.b_int (by first | rfl | decide +kernel) (pa_cons (pv 4) pa_nil)) (pe_int))) pa_nil)) (pe_int))))) (pss_one (ps_ret (pe_lst (pa_cons (pe_ifExp ((pw_or (pt_cmpR (op_ltX hr.units0) (pv 2) (pe_int) (nomark _)) (pw_or1 (pt_cmpR op_ge (pv 2) (pe_op op_pow (pe_int) (pe_int)) (nomark _)))).pt) (pe_callB call_abs (by rfl) T.b_abs (by first | rfl | decide +kernel) (pa_cons (pv 2) pa_nil)) (pe_int)) (pa_cons (pv 3) (pa_cons (pe_int) (pa_nil)))))))))
/-! ### law -/
theorem sc_law : FnScope ["script", "spot"] ["script"] (defScope (top 48)) := ⟨rfl, rfl, rfl, by decide +kernel, rfl, by decide +kernel, by decide +kernel⟩
theorem ok_law [TabOf] {P : Program} {w : World} {K : PySem.W.Frag} {mg : PySem.Str → Option Value} {base : Heap} {C fI : Addr} (T : Tx P K mg base C fI) {fd : FuncData} (FD : FunD K "law" "law" (defArgs (top 48)) (defBody (top 48)) (defScope (top 48)) [] [] (He.fAd K ("law", none)) fd) (hG : ∀ i m : Int, 0 ≤ i → 0 ≤ m → m < 2147480009 → ∃ dd', G__law_right [.int i, .int m, .int 0] [] = some (dd', .bool true)) : FnOk P w K mg base (L2.CX P w) 11 (He.fAd K ("law", none)) fd ["script"] (spLaw K) := by
  have w__law_right := w__law_right (w := w) T
  have w__law_dice := w__law_dice (w := w) T
  refine okC FD sc_law (fun vs H Q E h => ?_) (fun cdv A outer s H vs Q E hcv hr h => ⟨tLaw K G__law_right, ?_, law_ok hG vs H Q E h⟩)
  · obtain ⟨_, _, rfl, _⟩ := h
    rfl
  · exact pss_cons (ps_for (passes_of (by rfl)) (by rfl) (pi_range1 (by rfl) T.b_range (pa_cons (pe_callB (call_max2 (by rfl)) (by rfl) T.b_max (by first | rfl | decide +kernel) (pa_cons (pe_int) (pa_cons (pe_callB (call_min2 (by rfl)) (by rfl) T.b_min (by first | rfl | decide +kernel) (pa_cons (pe_int) (pa_cons (pe_callB call_len_seq (by rfl) T.b_len (by first | rfl | decide +kernel) (pa_cons (pv 0) pa_nil)) pa_nil))) pa_nil))) pa_nil)) (pg_name (i := 1) sc_law.nd (by rfl) (Or.inl (by rfl))) (pss_one (ps_if (pt_not (pt_val (pe_w w__law_right hr passL (pa_cons (pe_w w__law_dice hr passL (pa_cons (pv 0) (pa_cons (pv 1) pa_nil))) pa_nil)))) (pss_one (ps_ret pe_bl)) pss_nil))) (pss_one (ps_ret pe_bl))
/-! ### the head -/
def d_is_integer : He.DefD := ⟨("is_integer", none), "is_integer", "is_integer", defArgs (top 4), defBody (top 4), defScope (top 4), [], []⟩
def d_need_integer : He.DefD := ⟨("need_integer", none), "need_integer", "need_integer", defArgs (top 5), defBody (top 5), defScope (top 5), [], []⟩
def d_is_tie : He.DefD := ⟨("is_tie", none), "is_tie", "is_tie", defArgs (top 6), defBody (top 6), defScope (top 6), [], []⟩
def d_is_web : He.DefD := ⟨("is_web", none), "is_web", "is_web", defArgs (top 7), defBody (top 7), defScope (top 7), [], []⟩
def d_need_web : He.DefD := ⟨("need_web", none), "need_web", "need_web", defArgs (top 8), defBody (top 8), defScope (top 8), [], []⟩
def d_sides : He.DefD := ⟨("sides", none), "sides", "sides", defArgs (top 9), defBody (top 9), defScope (top 9), [], []⟩
def d_is_some : He.DefD := ⟨("is_some", none), "is_some", "is_some", defArgs (top 11), defBody (top 11), defScope (top 11), [], []⟩
def d_is_switch : He.DefD := ⟨("is_switch", none), "is_switch", "is_switch", defArgs (top 12), defBody (top 12), defScope (top 12), [], []⟩
def d_switched : He.DefD := ⟨("switched", none), "switched", "switched", defArgs (top 13), defBody (top 13), defScope (top 13), [], []⟩
def d_is_crossing : He.DefD := ⟨("is_crossing", none), "is_crossing", "is_crossing", defArgs (top 14), defBody (top 14), defScope (top 14), [], []⟩
def d_turned_web : He.DefD := ⟨("turned_web", none), "turned_web", "turned_web", defArgs (top 15), defBody (top 15), defScope (top 15), [], []⟩
def d_odd_triples : He.DefD := ⟨("odd_triples", none), "odd_triples", "odd_triples", defArgs (top 16), defBody (top 16), defScope (top 16), [], []⟩
def d_switches : He.DefD := ⟨("switches", none), "switches", "switches", defArgs (top 17), defBody (top 17), defScope (top 17), [], []⟩
def d_web_of : He.DefD := ⟨("web_of", none), "web_of", "web_of", defArgs (top 19), defBody (top 19), defScope (top 19), [], []⟩
def d_ring_web : He.DefD := ⟨("ring_web", none), "ring_web", "ring_web", defArgs (top 20), defBody (top 20), defScope (top 20), [], []⟩
def d_table : He.DefD := ⟨("table", none), "table", "table", defArgs (top 23), defBody (top 23), defScope (top 23), [], []⟩
def d_times : He.DefD := ⟨("times", none), "times", "times", defArgs (top 24), defBody (top 24), defScope (top 24), [], []⟩
def d_trace : He.DefD := ⟨("trace", none), "trace", "trace", defArgs (top 25), defBody (top 25), defScope (top 25), [], []⟩
def d_closed_walks : He.DefD := ⟨("closed_walks", none), "closed_walks", "closed_walks", defArgs (top 26), defBody (top 26), defScope (top 26), [], []⟩
def d_polynomial : He.DefD := ⟨("polynomial", none), "polynomial", "polynomial", defArgs (top 27), defBody (top 27), defScope (top 27), [], []⟩
def d__law_dice : He.DefD := ⟨("_law_dice", none), "_law_dice", "_law_dice", defArgs (top 29), defBody (top 29), defScope (top 29), [], []⟩
def d__law_roll : He.DefD := ⟨("_law_roll", none), "_law_roll", "_law_roll", defArgs (top 30), defBody (top 30), defScope (top 30), [], []⟩
def d__law_pick : He.DefD := ⟨("_law_pick", none), "_law_pick", "_law_pick", defArgs (top 31), defBody (top 31), defScope (top 31), [], []⟩
def d__law_refused : He.DefD := ⟨("_law_refused", none), "_law_refused", "_law_refused", defArgs (top 32), defBody (top 32), defScope (top 32), [], []⟩
def d__law_web_of : He.DefD := ⟨("_law_web_of", none), "_law_web_of", "_law_web_of", defArgs (top 33), defBody (top 33), defScope (top 33), [], []⟩
def d__law_rounds : He.DefD := ⟨("_law_rounds", none), "_law_rounds", "_law_rounds", defArgs (top 34), defBody (top 34), defScope (top 34), [], []⟩
def d__law_even : He.DefD := ⟨("_law_even", none), "_law_even", "_law_even", defArgs (top 35), defBody (top 35), defScope (top 35), [], []⟩
def d__law_mixed : He.DefD := ⟨("_law_mixed", none), "_law_mixed", "_law_mixed", defArgs (top 36), defBody (top 36), defScope (top 36), [], []⟩
def d__law_some_web : He.DefD := ⟨("_law_some_web", none), "_law_some_web", "_law_some_web", defArgs (top 37), defBody (top 37), defScope (top 37), [], []⟩
def d__law_bad_web : He.DefD := ⟨("_law_bad_web", none), "_law_bad_web", "_law_bad_web", defArgs (top 38), defBody (top 38), defScope (top 38), [], []⟩
def d__law_sides : He.DefD := ⟨("_law_sides", none), "_law_sides", "_law_sides", defArgs (top 39), defBody (top 39), defScope (top 39), [], []⟩
def d__law_some : He.DefD := ⟨("_law_some", none), "_law_some", "_law_some", defArgs (top 40), defBody (top 40), defScope (top 40), [], []⟩
def d__law_renamed : He.DefD := ⟨("_law_renamed", none), "_law_renamed", "_law_renamed", defArgs (top 41), defBody (top 41), defScope (top 41), [], []⟩
def d__law_shuffled : He.DefD := ⟨("_law_shuffled", none), "_law_shuffled", "_law_shuffled", defArgs (top 42), defBody (top 42), defScope (top 42), [], []⟩
def d__law_is_own_switch : He.DefD := ⟨("_law_is_own_switch", none), "_law_is_own_switch", "_law_is_own_switch", defArgs (top 43), defBody (top 43), defScope (top 43), [], []⟩
def d__law_own_switched : He.DefD := ⟨("_law_own_switched", none), "_law_own_switched", "_law_own_switched", defArgs (top 44), defBody (top 44), defScope (top 44), [], []⟩
def d__law_made : He.DefD := ⟨("_law_made", none), "_law_made", "_law_made", defArgs (top 45), defBody (top 45), defScope (top 45), [], []⟩
def d__law_odd_triples : He.DefD := ⟨("_law_odd_triples", none), "_law_odd_triples", "_law_odd_triples", defArgs (top 46), defBody (top 46), defScope (top 46), [], []⟩
def d__law_right : He.DefD := ⟨("_law_right", none), "_law_right", "_law_right", defArgs (top 47), defBody (top 47), defScope (top 47), [], []⟩
def d_law : He.DefD := ⟨("law", none), "law", "law", defArgs (top 48), defBody (top 48), defScope (top 48), [], []⟩
def fnL0 : List He.DefD := [d_is_integer, d_need_integer, d_is_tie, d_is_web, d_need_web, d_sides, d_is_some, d_is_switch, d_switched, d_is_crossing, d_turned_web, d_odd_triples, d_switches, d_web_of, d_ring_web, d_table, d_times, d_trace, d_closed_walks, d_polynomial]
def fnL1 : List He.DefD := [d__law_dice, d__law_roll, d__law_pick, d__law_refused, d__law_web_of, d__law_rounds, d__law_even, d__law_mixed, d__law_some_web, d__law_bad_web, d__law_sides, d__law_some, d__law_renamed, d__law_shuffled, d__law_is_own_switch, d__law_own_switched, d__law_made, d__law_odd_triples, d__law_right, d_law]
def fnL : List He.DefD := fnL0 ++ fnL1
def faL0 : List He.Fa := [.glo "is_integer", .glo "need_integer", .glo "is_tie", .glo "is_web", .glo "need_web", .glo "sides", .glo "is_some", .glo "is_switch", .glo "switched", .glo "is_crossing", .glo "turned_web", .glo "odd_triples", .glo "switches", .glo "web_of", .glo "ring_web", .glo "table", .glo "times", .glo "trace", .glo "closed_walks", .glo "polynomial"]
def faL1 : List He.Fa := [.glo "_law_dice", .glo "_law_roll", .glo "_law_pick", .glo "_law_refused", .glo "_law_web_of", .glo "_law_rounds", .glo "_law_even", .glo "_law_mixed", .glo "_law_some_web", .glo "_law_bad_web", .glo "_law_sides", .glo "_law_some", .glo "_law_renamed", .glo "_law_shuffled", .glo "_law_is_own_switch", .glo "_law_own_switched", .glo "_law_made", .glo "_law_odd_triples", .glo "_law_right", .glo "law"]
def faL2 : List He.Fa := [.glo "BadArgument", .free "abs", .free "all", .free "bool", .free "dict", .free "int", .free "isinstance", .free "len", .free "list", .free "max", .free "min", .free "range", .free "sorted", .free "sum", .free "tuple", .int "MOST_PLACES" 26, .int "MOST_STEPS" 12]
def faL : List He.Fa := faL0 ++ faL1 ++ faL2
def loL0 : List PySem.Str := ["BadArgument", "MOST_PLACES", "is_integer", "need_integer", "is_tie", "is_web", "need_web", "sides", "is_some", "is_switch", "switched", "is_crossing", "turned_web", "odd_triples", "switches", "web_of", "ring_web", "MOST_STEPS", "table", "times"]
def loL1 : List PySem.Str := ["trace", "closed_walks", "polynomial", "_law_dice", "_law_roll", "_law_pick", "_law_refused", "_law_web_of", "_law_rounds", "_law_even", "_law_mixed", "_law_some_web", "_law_bad_web", "_law_sides", "_law_some", "_law_renamed", "_law_shuffled", "_law_is_own_switch", "_law_own_switched", "_law_made"]
def loL2 : List PySem.Str := ["_law_odd_triples", "_law_right"]
def loL : List PySem.Str := loL0 ++ loL1 ++ loL2
def tfL : List He.Defn := [("_law_right", none)]
abbrev RR : PySem.W.OpenRow := PySem.W.OpenLaw.row PySem.Challenge.rw_noshortrings_k39_whole_switching
abbrev hkL : PySem.W.Hook := He.hookB PySem.Challenge.pw_noshortrings_k39_whole_switching 6 faL fnL tfL
def obL (s : PySem.W.SharedT) : He.AlB := He.obsBG PySem.Challenge.pw_noshortrings_k39_whole_switching 6 faL fnL tfL (HandSHeadRun.getT s)
theorem obL_eq (s : PySem.W.SharedT) : obL s = hkL.obs s.abs := He.obsBG_eq (HandSHeadRun.getT_eq s)
theorem runL (w : World) : HandSHeadRun.RunEq RR (PySem.W.view RR.prog [48]) hkL obL 6000 loL w := by
  intro os
  kernel_rfl
theorem txL {K : PySem.W.Frag} {mg : PySem.Str → Option Value} {h base : Heap} (X : K.In h) (G : h.Ns mainGlobals mg) (c : He.SaysB PySem.Challenge.pw_noshortrings_k39_whole_switching faL fnL tfL h K) (tb : LamX.TabB base mg (He.codeOf K ("_law_right", none)) (He.tabOf K (He.codeOf K ("_law_right", none)))) : letI : TabOf := ⟨[(He.tabOf K (He.codeOf K ("_law_right", none)), ((("_law_right" : PySem.Str) ++ ".<locals>.") ++ "<lambda>"))]⟩; Tx PySem.Challenge.pw_noshortrings_k39_whole_switching K mg base (He.cBad K) (He.fBad K) := by
  letI : TabOf := ⟨[(He.tabOf K (He.codeOf K ("_law_right", none)), ((("_law_right" : PySem.Str) ++ ".<locals>.") ++ "<lambda>"))]⟩
  have g : ∀ x, He.Fa.glo x ∈ faL → mg x = some (.ref (He.ga K x)) := fun x hx => He.glo_ok X G (c.t.facts hx)
  have f : ∀ x, He.Fa.free x ∈ faL → mg x = none := fun x hx => He.free_ok X G (c.t.facts hx)
  have i : ∀ x n, He.Fa.int x n ∈ faL → ∃ t, mg x = some (.int n t) := fun x n hx => He.int_ok X G (c.t.facts hx)
  exact {
    bad := PySem.BadX.txt_of X G (g _ (List.mem_of_getElem? (i := 40) (by rfl))) c.bad c.fnv
    a_is_integer := (c.t.def_ 0 (d := d_is_integer) (by rfl)).imp fun _ F => ⟨F, g _ (List.mem_of_getElem? (i := 0) (by rfl))⟩
    a_need_integer := (c.t.def_ 1 (d := d_need_integer) (by rfl)).imp fun _ F => ⟨F, g _ (List.mem_of_getElem? (i := 1) (by rfl))⟩
    a_is_tie := (c.t.def_ 2 (d := d_is_tie) (by rfl)).imp fun _ F => ⟨F, g _ (List.mem_of_getElem? (i := 2) (by rfl))⟩
    a_is_web := (c.t.def_ 3 (d := d_is_web) (by rfl)).imp fun _ F => ⟨F, g _ (List.mem_of_getElem? (i := 3) (by rfl))⟩
    a_need_web := (c.t.def_ 4 (d := d_need_web) (by rfl)).imp fun _ F => ⟨F, g _ (List.mem_of_getElem? (i := 4) (by rfl))⟩
    a_sides := (c.t.def_ 5 (d := d_sides) (by rfl)).imp fun _ F => ⟨F, g _ (List.mem_of_getElem? (i := 5) (by rfl))⟩
    a_is_some := (c.t.def_ 6 (d := d_is_some) (by rfl)).imp fun _ F => ⟨F, g _ (List.mem_of_getElem? (i := 6) (by rfl))⟩
    a_is_switch := (c.t.def_ 7 (d := d_is_switch) (by rfl)).imp fun _ F => ⟨F, g _ (List.mem_of_getElem? (i := 7) (by rfl))⟩
    a_switched := (c.t.def_ 8 (d := d_switched) (by rfl)).imp fun _ F => ⟨F, g _ (List.mem_of_getElem? (i := 8) (by rfl))⟩
    a_is_crossing := (c.t.def_ 9 (d := d_is_crossing) (by rfl)).imp fun _ F => ⟨F, g _ (List.mem_of_getElem? (i := 9) (by rfl))⟩
    a_turned_web := (c.t.def_ 10 (d := d_turned_web) (by rfl)).imp fun _ F => ⟨F, g _ (List.mem_of_getElem? (i := 10) (by rfl))⟩
    a_odd_triples := (c.t.def_ 11 (d := d_odd_triples) (by rfl)).imp fun _ F => ⟨F, g _ (List.mem_of_getElem? (i := 11) (by rfl))⟩
    a_switches := (c.t.def_ 12 (d := d_switches) (by rfl)).imp fun _ F => ⟨F, g _ (List.mem_of_getElem? (i := 12) (by rfl))⟩
    a_web_of := (c.t.def_ 13 (d := d_web_of) (by rfl)).imp fun _ F => ⟨F, g _ (List.mem_of_getElem? (i := 13) (by rfl))⟩
    a_ring_web := (c.t.def_ 14 (d := d_ring_web) (by rfl)).imp fun _ F => ⟨F, g _ (List.mem_of_getElem? (i := 14) (by rfl))⟩
    a_table := (c.t.def_ 15 (d := d_table) (by rfl)).imp fun _ F => ⟨F, g _ (List.mem_of_getElem? (i := 15) (by rfl))⟩
    a_times := (c.t.def_ 16 (d := d_times) (by rfl)).imp fun _ F => ⟨F, g _ (List.mem_of_getElem? (i := 16) (by rfl))⟩
    a_trace := (c.t.def_ 17 (d := d_trace) (by rfl)).imp fun _ F => ⟨F, g _ (List.mem_of_getElem? (i := 17) (by rfl))⟩
    a_closed_walks := (c.t.def_ 18 (d := d_closed_walks) (by rfl)).imp fun _ F => ⟨F, g _ (List.mem_of_getElem? (i := 18) (by rfl))⟩
    a_polynomial := (c.t.def_ 19 (d := d_polynomial) (by rfl)).imp fun _ F => ⟨F, g _ (List.mem_of_getElem? (i := 19) (by rfl))⟩
    a__law_dice := (c.t.def_ 20 (d := d__law_dice) (by rfl)).imp fun _ F => ⟨F, g _ (List.mem_of_getElem? (i := 20) (by rfl))⟩
    a__law_roll := (c.t.def_ 21 (d := d__law_roll) (by rfl)).imp fun _ F => ⟨F, g _ (List.mem_of_getElem? (i := 21) (by rfl))⟩
    a__law_pick := (c.t.def_ 22 (d := d__law_pick) (by rfl)).imp fun _ F => ⟨F, g _ (List.mem_of_getElem? (i := 22) (by rfl))⟩
    a__law_refused := (c.t.def_ 23 (d := d__law_refused) (by rfl)).imp fun _ F => ⟨F, g _ (List.mem_of_getElem? (i := 23) (by rfl))⟩
    a__law_web_of := (c.t.def_ 24 (d := d__law_web_of) (by rfl)).imp fun _ F => ⟨F, g _ (List.mem_of_getElem? (i := 24) (by rfl))⟩
    a__law_rounds := (c.t.def_ 25 (d := d__law_rounds) (by rfl)).imp fun _ F => ⟨F, g _ (List.mem_of_getElem? (i := 25) (by rfl))⟩
    a__law_even := (c.t.def_ 26 (d := d__law_even) (by rfl)).imp fun _ F => ⟨F, g _ (List.mem_of_getElem? (i := 26) (by rfl))⟩
    a__law_mixed := (c.t.def_ 27 (d := d__law_mixed) (by rfl)).imp fun _ F => ⟨F, g _ (List.mem_of_getElem? (i := 27) (by rfl))⟩
    a__law_some_web := (c.t.def_ 28 (d := d__law_some_web) (by rfl)).imp fun _ F => ⟨F, g _ (List.mem_of_getElem? (i := 28) (by rfl))⟩
    a__law_bad_web := (c.t.def_ 29 (d := d__law_bad_web) (by rfl)).imp fun _ F => ⟨F, g _ (List.mem_of_getElem? (i := 29) (by rfl))⟩
    a__law_sides := (c.t.def_ 30 (d := d__law_sides) (by rfl)).imp fun _ F => ⟨F, g _ (List.mem_of_getElem? (i := 30) (by rfl))⟩
    a__law_some := (c.t.def_ 31 (d := d__law_some) (by rfl)).imp fun _ F => ⟨F, g _ (List.mem_of_getElem? (i := 31) (by rfl))⟩
    a__law_renamed := (c.t.def_ 32 (d := d__law_renamed) (by rfl)).imp fun _ F => ⟨F, g _ (List.mem_of_getElem? (i := 32) (by rfl))⟩
    a__law_shuffled := (c.t.def_ 33 (d := d__law_shuffled) (by rfl)).imp fun _ F => ⟨F, g _ (List.mem_of_getElem? (i := 33) (by rfl))⟩
    a__law_is_own_switch := (c.t.def_ 34 (d := d__law_is_own_switch) (by rfl)).imp fun _ F => ⟨F, g _ (List.mem_of_getElem? (i := 34) (by rfl))⟩
    a__law_own_switched := (c.t.def_ 35 (d := d__law_own_switched) (by rfl)).imp fun _ F => ⟨F, g _ (List.mem_of_getElem? (i := 35) (by rfl))⟩
    a__law_made := (c.t.def_ 36 (d := d__law_made) (by rfl)).imp fun _ F => ⟨F, g _ (List.mem_of_getElem? (i := 36) (by rfl))⟩
    a__law_odd_triples := (c.t.def_ 37 (d := d__law_odd_triples) (by rfl)).imp fun _ F => ⟨F, g _ (List.mem_of_getElem? (i := 37) (by rfl))⟩
    a__law_right := (c.t.def_ 38 (d := d__law_right) (by rfl)).imp fun _ F => ⟨F, g _ (List.mem_of_getElem? (i := 38) (by rfl))⟩
    a_law := (c.t.def_ 39 (d := d_law) (by rfl)).imp fun _ F => ⟨F, g _ (List.mem_of_getElem? (i := 39) (by rfl))⟩
    b_abs := f _ (List.mem_of_getElem? (i := 41) (by rfl))
    b_all := f _ (List.mem_of_getElem? (i := 42) (by rfl))
    b_bool := f _ (List.mem_of_getElem? (i := 43) (by rfl))
    b_dict := f _ (List.mem_of_getElem? (i := 44) (by rfl))
    b_int := f _ (List.mem_of_getElem? (i := 45) (by rfl))
    b_isinstance := f _ (List.mem_of_getElem? (i := 46) (by rfl))
    b_len := f _ (List.mem_of_getElem? (i := 47) (by rfl))
    b_list := f _ (List.mem_of_getElem? (i := 48) (by rfl))
    b_max := f _ (List.mem_of_getElem? (i := 49) (by rfl))
    b_min := f _ (List.mem_of_getElem? (i := 50) (by rfl))
    b_range := f _ (List.mem_of_getElem? (i := 51) (by rfl))
    b_sorted := f _ (List.mem_of_getElem? (i := 52) (by rfl))
    b_sum := f _ (List.mem_of_getElem? (i := 53) (by rfl))
    b_tuple := f _ (List.mem_of_getElem? (i := 54) (by rfl))
    tb__law_right := tb
    tm__law_right := List.mem_singleton.mpr rfl
    tu__law_right := fun p hp _ => by rw [List.mem_singleton.mp hp]
    c_MOST_PLACES := i _ _ (List.mem_of_getElem? (i := 55) (by rfl))
    c_MOST_STEPS := i _ _ (List.mem_of_getElem? (i := 56) (by rfl)) }
theorem lawL (hG : ∀ i m : Int, 0 ≤ i → 0 ≤ m → m < 2147480009 → ∃ dd', G__law_right [.int i, .int m, .int 0] [] = some (dd', .bool true)) (w : World) (mg : PySem.Str → Option Value) (fa : Addr) (h : Heap) (Y : ∃ K : PySem.W.Frag, K.In h ∧ He.SaysB PySem.Challenge.pw_noshortrings_k39_whole_switching faL fnL tfL h K) (Gh : h.Ns mainGlobals mg) (hmg : mg "law" = some (.ref fa)) :
    ∃ K : PySem.W.Frag, K.In h ∧ LamX.LawAtS PySem.Challenge.rw_noshortrings_k39_whole_switching w K (L2.CX PySem.Challenge.pw_noshortrings_k39_whole_switching w) 11 63 "script" mg fa h := by
  obtain ⟨K, KX, c⟩ := Y
  obtain ⟨fd, FD⟩ := c.t.def_ 39 (d := d_law) (by rfl)
  have e := hmg.symm.trans (He.glo_ok KX Gh (c.t.facts (List.mem_of_getElem? (i := 39) (by rfl))))
  cases e
  have cm : ∀ p ∈ tfL.map (He.cT K), ∃ q ∈ tfL, p = He.cT K q := fun p hp => by
    obtain ⟨q, hq, e⟩ := List.mem_map.mp hp
    exact ⟨q, hq, e.symm⟩
  letI : TabOf := ⟨[(He.tabOf K (He.codeOf K ("_law_right", none)), ((("_law_right" : PySem.Str) ++ ".<locals>.") ++ "<lambda>"))]⟩
  have b := FunD.bindsA (ps := ["script"]) FD fun _ _ _ _ _ _ us hl => match us, hl with | [_], _ => rfl
  refine ⟨K, KX, fd, tfL.map (He.cT K), spLaw K, fun p hp => ?_, fun p hp => ?_, fun p hp => ?_, fun s v => b s [v] rfl, fun H a ns hl _ hT hS => ?_, fun base hK hn hTB => ?_⟩
  · obtain ⟨q, hq, rfl⟩ := cm p hp
    exact c.empty q hq
  · obtain ⟨q, hq, rfl⟩ := cm p hp
    exact c.out q hq
  · obtain ⟨q, hq, rfl⟩ := cm p hp
    exact PySem.W.codeHd_of_K KX (c.hd q hq)
  · refine ⟨a, ns, rfl, hS, by omega, fun p hp => ?_, fun _ => rfl⟩
    rw [List.mem_singleton.mp hp]
    exact LamX.TabS.nil (hT _ (List.mem_map_of_mem (f := He.cT K) (List.mem_singleton.mpr rfl)))
  · have T := txL KX Gh c (base := base) (hTB _ (List.mem_map_of_mem (f := He.cT K) (List.mem_singleton.mpr rfl)))
    exact ok_law T FD hG
end N
open PySem PySem.W PySem.Calls PyProof.Rows
theorem main_of (hG : ∀ i m : Int, 0 ≤ i → 0 ≤ m → m < 2147480009 → ∃ dd', N.G__law_right [.int i, .int m, .int 0] [] = some (dd', .bool true)) : PySem.Challenge.rw_noshortrings_k39_whole_switching.Holds := by
  w_on; o_law
  refine HandSHeadRun.head_any (r := OpenLaw.row PySem.Challenge.rw_noshortrings_k39_whole_switching) (q := view (OpenLaw.row PySem.Challenge.rw_noshortrings_k39_whole_switching).prog [48]) (H := N.hkL) (ob := N.obL) (M := 6000) (loose := N.loL) (d := HandSHeadRun.topDef (OpenLaw.row PySem.Challenge.rw_noshortrings_k39_whole_switching).prog 48) (kwd := []) N.obL_eq
    (by kernel_rfl) (fun s => by kernel_rfl) N.runL (by kernel_rfl) (by kernel_rfl) (by kernel_rfl) (by rfl) (by first | assumption | decide +kernel) (by decide +kernel) ⟨rfl, rfl, rfl, rfl, rfl, by decide +kernel⟩ ?hw ?hc
  case hw => w_witness2
  case hc =>
    refine LamX.walk_ofX (l := PySem.Challenge.rw_noshortrings_k39_whole_switching) (n := 63) (k := 11) (x := "script") (CX := fun w => L2.CX PySem.Challenge.pw_noshortrings_k39_whole_switching w) rfl (by decide) (by kernel_rfl) ⟨rfl, by decide, by decide⟩ ?F (fun w H s e s' z => ?_)
    case F =>
      intro w mg fa h Y G hmg0
      have hmg : mg ("law" : PySem.Str) = some (.ref fa) := by
        have e : (HandSHeadRun.topDef (OpenLaw.row PySem.Challenge.rw_noshortrings_k39_whole_switching).prog 48).name = ("law" : PySem.Str) := by kernel_rfl
        rw [← e]
        exact hmg0
      exact N.lawL hG w mg fa h Y G hmg
    · obtain ⟨_, _, _, _, _, _, _, _, _, _, _, _, z⟩ := z
      exact z.elim

theorem PySem.Challenge.cw_noshortrings_k39_whole_switching_holds : PySem.Challenge.rw_noshortrings_k39_whole_switching.Holds := by
  exact main_of N.hG
